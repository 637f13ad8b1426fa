import PyProof.Rows.All
import Wide.All
import OpenK.AllK
import Wide.FinOn
import KE.KStateDown
import Open.SpecLaws
import KE.OsGo
import HandS.ForSpec
import HandS.Comp
import HandS.Iter
import HandS.ExcInit
import HandS.ExcField
import HandS.Defaults
import HandS.Head0
import HandS.Head1
import HandS.Head2
import HandS.Head4
import HandS.HeadHook1
import HandS.HeadHook2
import HandS.ExcValue
import HandS.CallRecv
import HandS.TupAny
import HandS.Deep
import HandS.SortInts
import HandS.Conv
import HandS.Codes
import PyProof.SetScanFacts
import PyProof.SetRoads
import PyProof.Rows.SetFrom
import KE.DatumOrd
import KE.KeyNested
import KE.KDictKeyed
import PySem.Challenge.RW_testplans_s01_answers
section
set_option Elab.async false
set_option linter.all false
set_option maxRecDepth 100000
set_option maxHeartbeats 4000000
namespace Tp
open PySem PySem.Spec PyProof.Rows L2
section
def top (i : Nat) : Stmt := PySem.Challenge.pw_testplans_s01_answers.main.body.getD i (.Pass ⟨0, 0, 0, 0⟩)
abbrev s_time_of : Stmt := top 1
abbrev s_all_ways : Stmt := top 2
abbrev s_best_way : Stmt := top 3
abbrev s_is_way : Stmt := top 4
abbrev s_is_choice : Stmt := top 5
abbrev s_all_choices : Stmt := top 6
abbrev s_best_choice : Stmt := top 7
abbrev s_Fault_init : Stmt := inClass (top 25) 0
abbrev s_Token_init : Stmt := inClass (top 26) 0
abbrev s_Token_fault : Stmt := inClass (top 26) 1
abbrev s_bytes_of : Stmt := top 27
abbrev s_is_small : Stmt := top 28
abbrev s_is_digit : Stmt := top 29
abbrev s_is_in_word : Stmt := top 30
abbrev s_number_of : Stmt := top 31
abbrev s_word_at : Stmt := top 32
abbrev s_number_at : Stmt := top 33
abbrev s_token_at : Stmt := top 34
abbrev s_Reader_init : Stmt := inClass (top 35) 0
abbrev s_Reader_begin : Stmt := inClass (top 35) 1
abbrev s_Reader_now : Stmt := inClass (top 35) 2
abbrev s_Reader_is_now : Stmt := inClass (top 35) 3
abbrev s_Reader_take : Stmt := inClass (top 35) 4
abbrev s_Group_init : Stmt := inClass (top 45) 0
abbrev s_Test_init : Stmt := inClass (top 46) 0
abbrev s_Plan_init : Stmt := inClass (top 47) 0
abbrev s_Plan_setup : Stmt := inClass (top 47) 1
abbrev s_Plan_cost_of : Stmt := inClass (top 47) 2
abbrev s_Plan_is_closed : Stmt := inClass (top 47) 3
abbrev s_Plan_missed : Stmt := inClass (top 47) 4
abbrev s_known : Stmt := top 48
abbrev s_new_name : Stmt := top 49
abbrev s_read_group : Stmt := top 50
abbrev s_take_right : Stmt := top 51
abbrev s_read_behind : Stmt := top 52
abbrev s_read_test : Stmt := top 53
abbrev s_read_plan : Stmt := top 54
abbrev s_digits_of : Stmt := top 55
abbrev s_joined : Stmt := top 56
abbrev s_test_line : Stmt := top 57
abbrev s_plan_text : Stmt := top 58
abbrev s_scaled : Stmt := top 61
abbrev s_step_cost : Stmt := top 62
abbrev s_group_behind : Stmt := top 63
abbrev s_is_order : Stmt := top 64
abbrev s_expected : Stmt := top 65
abbrev s_may_run : Stmt := top 66
abbrev s_Search_init : Stmt := inClass (top 67) 0
abbrev s_Search_from_on : Stmt := inClass (top 67) 1
abbrev s_Search_least : Stmt := inClass (top 67) 2
abbrev s_Search_order : Stmt := inClass (top 67) 3
abbrev s_best_order : Stmt := top 68
abbrev s_comes_before : Stmt := top 69
abbrev s_is_first : Stmt := top 70
abbrev s_rule_order : Stmt := top 71
abbrev s_Refused_init : Stmt := inClass (top 88) 0
abbrev s_Desk_init : Stmt := inClass (top 89) 0
abbrev s_refuse_where : Stmt := top 90
abbrev s_load : Stmt := top 91
abbrev s_expected_told : Stmt := top 92
abbrev s_order_told : Stmt := top 93
abbrev s_ask_machines : Stmt := top 94
abbrev s_machines : Stmt := top 95
abbrev s_time_told : Stmt := top 96
abbrev s_budget : Stmt := top 97
abbrev s_choice : Stmt := top 98
abbrev s_size : Stmt := top 99
abbrev s_told : Stmt := top 100
abbrev s_told_or_refused : Stmt := top 101
abbrev s_answers : Stmt := top 102
/-! ### the defs -/
def d_time_of : He.DefD := ⟨("time_of", none), "time_of", "time_of", defArgs s_time_of, defBody s_time_of, defScope s_time_of, [], []⟩
def d_all_ways : He.DefD := ⟨("all_ways", none), "all_ways", "all_ways", defArgs s_all_ways, defBody s_all_ways, defScope s_all_ways, [], []⟩
def d_best_way : He.DefD := ⟨("best_way", none), "best_way", "best_way", defArgs s_best_way, defBody s_best_way, defScope s_best_way, [], []⟩
def d_is_way : He.DefD := ⟨("is_way", none), "is_way", "is_way", defArgs s_is_way, defBody s_is_way, defScope s_is_way, [], []⟩
def d_is_choice : He.DefD := ⟨("is_choice", none), "is_choice", "is_choice", defArgs s_is_choice, defBody s_is_choice, defScope s_is_choice, [], []⟩
def d_all_choices : He.DefD := ⟨("all_choices", none), "all_choices", "all_choices", defArgs s_all_choices, defBody s_all_choices, defScope s_all_choices, [], []⟩
def d_best_choice : He.DefD := ⟨("best_choice", none), "best_choice", "best_choice", defArgs s_best_choice, defBody s_best_choice, defScope s_best_choice, [], []⟩
def d_Fault_init : He.DefD := ⟨("Fault", some "__init__"), "__init__", "Fault.__init__", defArgs s_Fault_init, defBody s_Fault_init, defScope s_Fault_init, [], []⟩
def d_Token_init : He.DefD := ⟨("Token", some "__init__"), "__init__", "Token.__init__", defArgs s_Token_init, defBody s_Token_init, defScope s_Token_init, [], []⟩
def d_Token_fault : He.DefD := ⟨("Token", some "fault"), "fault", "Token.fault", defArgs s_Token_fault, defBody s_Token_fault, defScope s_Token_fault, [], []⟩
def d_bytes_of : He.DefD := ⟨("bytes_of", none), "bytes_of", "bytes_of", defArgs s_bytes_of, defBody s_bytes_of, defScope s_bytes_of, [], []⟩
def d_is_small : He.DefD := ⟨("is_small", none), "is_small", "is_small", defArgs s_is_small, defBody s_is_small, defScope s_is_small, [], []⟩
def d_is_digit : He.DefD := ⟨("is_digit", none), "is_digit", "is_digit", defArgs s_is_digit, defBody s_is_digit, defScope s_is_digit, [], []⟩
def d_is_in_word : He.DefD := ⟨("is_in_word", none), "is_in_word", "is_in_word", defArgs s_is_in_word, defBody s_is_in_word, defScope s_is_in_word, [], []⟩
def d_number_of : He.DefD := ⟨("number_of", none), "number_of", "number_of", defArgs s_number_of, defBody s_number_of, defScope s_number_of, [], []⟩
def d_word_at : He.DefD := ⟨("word_at", none), "word_at", "word_at", defArgs s_word_at, defBody s_word_at, defScope s_word_at, [], []⟩
def d_number_at : He.DefD := ⟨("number_at", none), "number_at", "number_at", defArgs s_number_at, defBody s_number_at, defScope s_number_at, [], []⟩
def d_token_at : He.DefD := ⟨("token_at", none), "token_at", "token_at", defArgs s_token_at, defBody s_token_at, defScope s_token_at, [], []⟩
def d_Reader_init : He.DefD := ⟨("Reader", some "__init__"), "__init__", "Reader.__init__", defArgs s_Reader_init, defBody s_Reader_init, defScope s_Reader_init, [], []⟩
def d_Reader_begin : He.DefD := ⟨("Reader", some "begin"), "begin", "Reader.begin", defArgs s_Reader_begin, defBody s_Reader_begin, defScope s_Reader_begin, [], []⟩
def d_Reader_now : He.DefD := ⟨("Reader", some "now"), "now", "Reader.now", defArgs s_Reader_now, defBody s_Reader_now, defScope s_Reader_now, [], []⟩
def d_Reader_is_now : He.DefD := ⟨("Reader", some "is_now"), "is_now", "Reader.is_now", defArgs s_Reader_is_now, defBody s_Reader_is_now, defScope s_Reader_is_now, [], []⟩
def d_Reader_take : He.DefD := ⟨("Reader", some "take"), "take", "Reader.take", defArgs s_Reader_take, defBody s_Reader_take, defScope s_Reader_take, [], []⟩
def d_Group_init : He.DefD := ⟨("Group", some "__init__"), "__init__", "Group.__init__", defArgs s_Group_init, defBody s_Group_init, defScope s_Group_init, [], []⟩
def d_Test_init : He.DefD := ⟨("Test", some "__init__"), "__init__", "Test.__init__", defArgs s_Test_init, defBody s_Test_init, defScope s_Test_init, [], []⟩
def d_Plan_init : He.DefD := ⟨("Plan", some "__init__"), "__init__", "Plan.__init__", defArgs s_Plan_init, defBody s_Plan_init, defScope s_Plan_init, [], []⟩
def d_Plan_setup : He.DefD := ⟨("Plan", some "setup"), "setup", "Plan.setup", defArgs s_Plan_setup, defBody s_Plan_setup, defScope s_Plan_setup, [], []⟩
def d_Plan_cost_of : He.DefD := ⟨("Plan", some "cost_of"), "cost_of", "Plan.cost_of", defArgs s_Plan_cost_of, defBody s_Plan_cost_of, defScope s_Plan_cost_of, [], []⟩
def d_Plan_is_closed : He.DefD := ⟨("Plan", some "is_closed"), "is_closed", "Plan.is_closed", defArgs s_Plan_is_closed, defBody s_Plan_is_closed, defScope s_Plan_is_closed, [], []⟩
def d_Plan_missed : He.DefD := ⟨("Plan", some "missed"), "missed", "Plan.missed", defArgs s_Plan_missed, defBody s_Plan_missed, defScope s_Plan_missed, [], []⟩
def d_known : He.DefD := ⟨("known", none), "known", "known", defArgs s_known, defBody s_known, defScope s_known, [], []⟩
def d_new_name : He.DefD := ⟨("new_name", none), "new_name", "new_name", defArgs s_new_name, defBody s_new_name, defScope s_new_name, [], []⟩
def d_read_group : He.DefD := ⟨("read_group", none), "read_group", "read_group", defArgs s_read_group, defBody s_read_group, defScope s_read_group, [], []⟩
def d_take_right : He.DefD := ⟨("take_right", none), "take_right", "take_right", defArgs s_take_right, defBody s_take_right, defScope s_take_right, [], []⟩
def d_read_behind : He.DefD := ⟨("read_behind", none), "read_behind", "read_behind", defArgs s_read_behind, defBody s_read_behind, defScope s_read_behind, [], []⟩
def d_read_test : He.DefD := ⟨("read_test", none), "read_test", "read_test", defArgs s_read_test, defBody s_read_test, defScope s_read_test, [], []⟩
def d_read_plan : He.DefD := ⟨("read_plan", none), "read_plan", "read_plan", defArgs s_read_plan, defBody s_read_plan, defScope s_read_plan, [], []⟩
def d_digits_of : He.DefD := ⟨("digits_of", none), "digits_of", "digits_of", defArgs s_digits_of, defBody s_digits_of, defScope s_digits_of, [], []⟩
def d_joined : He.DefD := ⟨("joined", none), "joined", "joined", defArgs s_joined, defBody s_joined, defScope s_joined, [], []⟩
def d_test_line : He.DefD := ⟨("test_line", none), "test_line", "test_line", defArgs s_test_line, defBody s_test_line, defScope s_test_line, [], []⟩
def d_plan_text : He.DefD := ⟨("plan_text", none), "plan_text", "plan_text", defArgs s_plan_text, defBody s_plan_text, defScope s_plan_text, [], []⟩
def d_scaled : He.DefD := ⟨("scaled", none), "scaled", "scaled", defArgs s_scaled, defBody s_scaled, defScope s_scaled, [], []⟩
def d_step_cost : He.DefD := ⟨("step_cost", none), "step_cost", "step_cost", defArgs s_step_cost, defBody s_step_cost, defScope s_step_cost, [], []⟩
def d_group_behind : He.DefD := ⟨("group_behind", none), "group_behind", "group_behind", defArgs s_group_behind, defBody s_group_behind, defScope s_group_behind, [], []⟩
def d_is_order : He.DefD := ⟨("is_order", none), "is_order", "is_order", defArgs s_is_order, defBody s_is_order, defScope s_is_order, [], []⟩
def d_expected : He.DefD := ⟨("expected", none), "expected", "expected", defArgs s_expected, defBody s_expected, defScope s_expected, [], []⟩
def d_may_run : He.DefD := ⟨("may_run", none), "may_run", "may_run", defArgs s_may_run, defBody s_may_run, defScope s_may_run, [], []⟩
def d_Search_init : He.DefD := ⟨("Search", some "__init__"), "__init__", "Search.__init__", defArgs s_Search_init, defBody s_Search_init, defScope s_Search_init, [], []⟩
def d_Search_from_on : He.DefD := ⟨("Search", some "from_on"), "from_on", "Search.from_on", defArgs s_Search_from_on, defBody s_Search_from_on, defScope s_Search_from_on, [], []⟩
def d_Search_least : He.DefD := ⟨("Search", some "least"), "least", "Search.least", defArgs s_Search_least, defBody s_Search_least, defScope s_Search_least, [], []⟩
def d_Search_order : He.DefD := ⟨("Search", some "order"), "order", "Search.order", defArgs s_Search_order, defBody s_Search_order, defScope s_Search_order, [], []⟩
def d_best_order : He.DefD := ⟨("best_order", none), "best_order", "best_order", defArgs s_best_order, defBody s_best_order, defScope s_best_order, [], []⟩
def d_comes_before : He.DefD := ⟨("comes_before", none), "comes_before", "comes_before", defArgs s_comes_before, defBody s_comes_before, defScope s_comes_before, [], []⟩
def d_is_first : He.DefD := ⟨("is_first", none), "is_first", "is_first", defArgs s_is_first, defBody s_is_first, defScope s_is_first, [], []⟩
def d_rule_order : He.DefD := ⟨("rule_order", none), "rule_order", "rule_order", defArgs s_rule_order, defBody s_rule_order, defScope s_rule_order, [], []⟩
def d_Refused_init : He.DefD := ⟨("Refused", some "__init__"), "__init__", "Refused.__init__", defArgs s_Refused_init, defBody s_Refused_init, defScope s_Refused_init, [], []⟩
def d_Desk_init : He.DefD := ⟨("Desk", some "__init__"), "__init__", "Desk.__init__", defArgs s_Desk_init, defBody s_Desk_init, defScope s_Desk_init, [], []⟩
def d_refuse_where : He.DefD := ⟨("refuse_where", none), "refuse_where", "refuse_where", defArgs s_refuse_where, defBody s_refuse_where, defScope s_refuse_where, [], []⟩
def d_load : He.DefD := ⟨("load", none), "load", "load", defArgs s_load, defBody s_load, defScope s_load, [], []⟩
def d_expected_told : He.DefD := ⟨("expected_told", none), "expected_told", "expected_told", defArgs s_expected_told, defBody s_expected_told, defScope s_expected_told, [], []⟩
def d_order_told : He.DefD := ⟨("order_told", none), "order_told", "order_told", defArgs s_order_told, defBody s_order_told, defScope s_order_told, [], []⟩
def d_ask_machines : He.DefD := ⟨("ask_machines", none), "ask_machines", "ask_machines", defArgs s_ask_machines, defBody s_ask_machines, defScope s_ask_machines, [], []⟩
def d_machines : He.DefD := ⟨("machines", none), "machines", "machines", defArgs s_machines, defBody s_machines, defScope s_machines, [], []⟩
def d_time_told : He.DefD := ⟨("time_told", none), "time_told", "time_told", defArgs s_time_told, defBody s_time_told, defScope s_time_told, [], []⟩
def d_budget : He.DefD := ⟨("budget", none), "budget", "budget", defArgs s_budget, defBody s_budget, defScope s_budget, [], []⟩
def d_choice : He.DefD := ⟨("choice", none), "choice", "choice", defArgs s_choice, defBody s_choice, defScope s_choice, [], []⟩
def d_size : He.DefD := ⟨("size", none), "size", "size", defArgs s_size, defBody s_size, defScope s_size, [], []⟩
def d_told : He.DefD := ⟨("told", none), "told", "told", defArgs s_told, defBody s_told, defScope s_told, [], []⟩
def d_told_or_refused : He.DefD := ⟨("told_or_refused", none), "told_or_refused", "told_or_refused", defArgs s_told_or_refused, defBody s_told_or_refused, defScope s_told_or_refused, [], []⟩
def d_answers : He.DefD := ⟨("answers", none), "answers", "answers", defArgs s_answers, defBody s_answers, defScope s_answers, [], []⟩
def fn : List He.DefD := [d_time_of, d_all_ways, d_best_way, d_is_way, d_is_choice, d_all_choices, d_best_choice, d_Fault_init, d_Token_init, d_Token_fault, d_bytes_of, d_is_small, d_is_digit, d_is_in_word, d_number_of, d_word_at, d_number_at, d_token_at, d_Reader_init, d_Reader_begin, d_Reader_now, d_Reader_is_now, d_Reader_take, d_Group_init, d_Test_init, d_Plan_init, d_Plan_setup, d_Plan_cost_of, d_Plan_is_closed, d_Plan_missed, d_known, d_new_name, d_read_group, d_take_right, d_read_behind, d_read_test, d_read_plan, d_digits_of, d_joined, d_test_line, d_plan_text, d_scaled, d_step_cost, d_group_behind, d_is_order, d_expected, d_may_run, d_Search_init, d_Search_from_on, d_Search_least, d_Search_order, d_best_order, d_comes_before, d_is_first, d_rule_order, d_Refused_init, d_Desk_init, d_refuse_where, d_load, d_expected_told, d_order_told, d_ask_machines, d_machines, d_time_told, d_budget, d_choice, d_size, d_told, d_told_or_refused, d_answers]
def fa : List He.Fa := [.glo "time_of", .glo "all_ways", .glo "best_way", .glo "is_way", .glo "is_choice", .glo "all_choices", .glo "best_choice", .glo "bytes_of", .glo "is_small", .glo "is_digit", .glo "is_in_word", .glo "number_of", .glo "word_at", .glo "number_at", .glo "token_at", .glo "known", .glo "new_name", .glo "read_group", .glo "take_right", .glo "read_behind", .glo "read_test", .glo "read_plan", .glo "digits_of", .glo "joined", .glo "test_line", .glo "plan_text", .glo "scaled", .glo "step_cost", .glo "group_behind", .glo "is_order", .glo "expected", .glo "may_run", .glo "best_order", .glo "comes_before", .glo "is_first", .glo "rule_order", .glo "refuse_where", .glo "load", .glo "expected_told", .glo "order_told", .glo "ask_machines", .glo "machines", .glo "time_told", .glo "budget", .glo "choice", .glo "size", .glo "told", .glo "told_or_refused", .glo "answers", .glo "Fault", .glo "Token", .glo "Reader", .glo "Group", .glo "Test", .glo "Plan", .glo "Search", .glo "Refused", .glo "Desk", .glo "WORDS", .glo "SIGNS", .glo "BLANKS", .glo "NUMBERS_OF", .glo "WITH_LIST", .int "HASH" 35, .int "LINE_END" 10, .int "UNDERLINE" 95, .int "MOST_WORD" 12, .int "MOST_DIGITS" 4, .int "MOST_NUMBER" 1000, .int "NO_TOKEN" 1, .int "BAD_TOKEN" 2, .int "NOT_HERE" 3, .int "TOO_SHORT" 4, .int "TOO_MUCH" 5, .int "TWICE" 6, .int "UNKNOWN" 7, .int "NOT_RIGHT" 8, .int "MOST_GROUPS" 3, .int "MOST_TESTS" 7, .int "MOST_CHANCE" 100, .int "NO_GROUP" (-1), .int "HUNDRED" 100, .int "LOAD" 0, .int "EXPECTED" 2, .int "MACHINES" 5, .int "TIME" 6, .int "BUDGET" 7, .int "CHOICE" 8, .int "NO_BYTES" (-1), .int "TOO_LONG" (-2), .int "NOT_SO" (-7), .int "NO_LIST" (-12), .int "MOST_BYTES" 4096, .int "MOST_MACHINES" 3, .int "MOST_BUDGET" 100000, .str "NAME" "a name", .str "NUMBER" "a number", .str "END" "the end", .free "range", .free "max", .free "len", .free "all", .free "set", .free "enumerate", .free "tuple", .free "ord", .free "sum", .free "sorted", .free "list", .free "min", .cls "Token", .mkr "Token", .noat "Token" "mark", .noat "Token" "some", .noat "Token" "place", .meth "Token" "fault", .cls "Reader", .mkr "Reader", .noat "Reader" "text", .noat "Reader" "at", .noat "Reader" "seen", .meth "Reader" "begin", .meth "Reader" "now", .meth "Reader" "is_now", .meth "Reader" "take", .cls "Group", .mkr "Group", .noat "Group" "name", .noat "Group" "cost", .cls "Test", .mkr "Test", .noat "Test" "name", .noat "Test" "cost", .noat "Test" "chance", .noat "Test" "group", .noat "Test" "behind", .cls "Plan", .mkr "Plan", .noat "Plan" "groups", .noat "Plan" "tests", .meth "Plan" "setup", .meth "Plan" "cost_of", .meth "Plan" "is_closed", .meth "Plan" "missed", .cls "Search", .mkr "Search", .noat "Search" "plan", .noat "Search" "known", .meth "Search" "from_on", .meth "Search" "least", .meth "Search" "order", .cls "Desk", .mkr "Desk", .noat "Desk" "plan", .noat "Fault" "kind", .noat "Fault" "place", .exm "Fault" "Fault" true, .noat "Refused" "code", .exm "Refused" "Refused" true, .exm "Refused" "Fault" false]
/-! ### what is known besides: the tables, the exceptions' classes -/
def dvOf (x : Str × List He.Dv) (K : PySem.W.Frag) : Bool := He.tupB K x.1 x.2
def tabs : List (Str × List He.Dv) := [("WORDS", [.str "group", .str "test", .str "cost", .str "chance", .str "in", .str "after"]), ("SIGNS", [.str ",", .str ";"]), ("BLANKS", [.int 9, .int 10, .int 13, .int 32]), ("NUMBERS_OF", [.int 0, .int 0, .int 0, .int 0, .int 0, .int 1, .int 1, .int 1, .int 0, .int 0]), ("WITH_LIST", [.int 0, .int 2, .int 6, .int 8])]
def excs : List Str := ["Fault", "Refused"]
/-- the class of an exception of one's own over ValueError, its own __init__ -/
def oexB (K : PySem.W.Frag) (x : Str) : Bool := (match K.lookup (He.ga K x) with
    | some ⟨.type t, _, .cls cd, sl⟩ => (match cd.mro, sl.toList with
      | .ref C' :: bm, [_, _, _, _, some (.builtin n), _] => decide (t = "type") && (decide (C' = He.ga K x) && (decide (n = "ValueError.__new__") && (!cd.hasDel && (cd.hasDict && PySem.HandSPX.refsVE bm))))
      | _, _ => false)
    | _ => false) &&
  (decide (PySem.W.findIn K (.ref (He.ga K x)) "__setattr__" = some (some (.builtin "object.__setattr__"))) && (decide (PySem.W.subIn K (.ref (He.ga K x)) (.type "BaseException") = some true) &&
  (decide (PySem.W.typeIn K (.ref (He.ga K x)) = some (.type "type")) && (PySem.W.keepIn K (.ref (He.ga K x)) && (decide (PySem.W.findIn K (.ref (He.ga K x)) "__init__" = some (some (.ref (He.ma K (He.ga K x) "__init__")))) &&
  (decide (PySem.W.typeIn K (.ref (He.ma K (He.ga K x) "__init__")) = some (.type "function")) && xfB K (He.ga K x)))))))
theorem oexB_ok {K : PySem.W.Frag} {x : Str} (h : oexB K x = true) : OexC K (He.ga K x) ∧ PySem.W.findIn K (.ref (He.ga K x)) "__init__" = some (some (.ref (He.ma K (He.ga K x) "__init__"))) ∧ PySem.W.typeIn K (.ref (He.ma K (He.ga K x) "__init__")) = some (.type "function") ∧ XfC K (He.ga K x) := by
  obtain ⟨h0, h⟩ := He.ba h
  obtain ⟨h1, h⟩ := He.ba h
  obtain ⟨h2, h⟩ := He.ba h
  obtain ⟨h3, h⟩ := He.ba h
  obtain ⟨h4, h⟩ := He.ba h
  obtain ⟨h5, h⟩ := He.ba h
  obtain ⟨h6, h7⟩ := He.ba h
  refine ⟨⟨?_, of_decide_eq_true h1, of_decide_eq_true h2, of_decide_eq_true h3, h4⟩, of_decide_eq_true h5, of_decide_eq_true h6, xfB_ok h7⟩
  split at h0
  · rename_i t dd cd sl ho
    split at h0
    · rename_i C' bm k0 k1 k2 k3 n k5 hm hs
      obtain ⟨q0, h0⟩ := He.ba h0
      obtain ⟨q1, h0⟩ := He.ba h0
      obtain ⟨q2, h0⟩ := He.ba h0
      obtain ⟨q3, h0⟩ := He.ba h0
      obtain ⟨q4, q5⟩ := He.ba h0
      have e0 := of_decide_eq_true q0
      have e1 := of_decide_eq_true q1
      have e2 := of_decide_eq_true q2
      subst e0 e2
      obtain ⟨nm, bs, mro, ns, qn, hd, sn, sub, ab, col, del⟩ := cd
      have e3 : del = false := by simpa using q3
      have e4 : hd = true := q4
      have e5 : mro = .ref C' :: bm := hm
      subst e3 e4 e5
      have hsl : sl = #[k0, k1, k2, k3, some (.builtin "ValueError.__new__"), k5] := by
        obtain ⟨l⟩ := sl
        have e6 : l = _ := hs
        rw [e6]
      subst hsl
      exact ⟨nm, qn, ns, bs, bm, sn, sub, ab, col, dd, k0, k1, k2, k3, k5, by rw [ho, e1], q5⟩
    · cases h0
  · cases h0
def more (K : PySem.W.Frag) : Bool := (tabs.all fun x => He.tupB K x.1 x.2) && excs.all fun x => oexB K x
/-- the objects that the head looks at -/
def places : List Nat := List.range 598
def frag (g : Addr → Option Obj) : PySem.W.Frag := He.frG g places
/-- the objects are told before they are used -/
def told {α : Type} : PySem.W.Frag → (PySem.W.Frag → α) → α
  | [], k => k []
  | (a, ⟨c, d, dt, sl⟩) :: r, k => HandSHeadRun.frNat a fun a => told r fun r' => k ((a, ⟨c, d, dt, sl⟩) :: r')
theorem told_eq {α : Type} : ∀ (l : PySem.W.Frag) (k : PySem.W.Frag → α), told l k = k l
  | [], k => rfl
  | (a, ⟨c, d, dt, sl⟩) :: r, k => by
    show HandSHeadRun.frNat a (fun a => told r fun r' => k ((a, ⟨c, d, dt, sl⟩) :: r')) = _
    rw [HandSHeadRun.frNat_eq, told_eq r]
def obK (K : PySem.W.Frag) : He.AlD × Bool := (He.obsD fa fn K, more K)
def Says (K : PySem.W.Frag) : Prop := obK K = (He.valD fn, true)
def hook : PySem.W.Hook where
  α := He.AlD × Bool
  obs := fun s => obK (frag s.heap.get?)
  val := fun _ => (He.valD fn, true)
  says := fun _ h => ∃ K : PySem.W.Frag, K.In h ∧ Says K
  of := fun _ _ e => ⟨_, He.frG_in, e⟩
  keeps := fun _ _ _ ⟨K, hK, c⟩ k => ⟨K, PySem.W.Frag.In.keeps hK k, c⟩
def ob (s : PySem.W.SharedT) : He.AlD × Bool := told (frag (HandSHeadRun.getT s)) obK
theorem ob_eq (s : PySem.W.SharedT) : ob s = hook.obs s.abs := by
  have e : HandSHeadRun.getT s = s.abs.heap.get? := funext (HandSHeadRun.getT_eq s)
  show told (frag (HandSHeadRun.getT s)) obK = obK (frag s.abs.heap.get?)
  rw [told_eq, e]
/-! ### what a proof of a def stands on -/
structure Tx (K : PySem.W.Frag) (mg : Str → Option Value) : Prop where
  ex : ∃ h : Heap, K.In h ∧ h.Ns mainGlobals mg
  says : Says K
section
variable {K : PySem.W.Frag} {mg : Str → Option Value}
theorem Tx.sd (T : Tx K mg) : He.SaysD fa fn K := congrArg Prod.fst T.says
theorem Tx.mo (T : Tx K mg) : more K = true := congrArg Prod.snd T.says
theorem Tx.fa (T : Tx K mg) (i : Nat) {f : He.Fa} (h : Tp.fa[i]? = some f := by rfl) : f.ok K = true := T.sd.fact i h
theorem Tx.glo (T : Tx K mg) {x : Str} (c : (He.Fa.glo x).ok K = true) : mg x = some (.ref (He.ga K x)) := by
  obtain ⟨h, X, G⟩ := T.ex
  exact He.glo_ok X G c
theorem Tx.free (T : Tx K mg) {x : Str} (c : (He.Fa.free x).ok K = true) : mg x = none := by
  obtain ⟨h, X, G⟩ := T.ex
  exact He.free_ok X G c
theorem Tx.int (T : Tx K mg) {x : Str} {i : Int} (c : (He.Fa.int x i).ok K = true) : ∃ t, mg x = some (.int i t) := by
  obtain ⟨h, X, G⟩ := T.ex
  exact He.int_ok X G c
theorem Tx.str (T : Tx K mg) {x z : Str} (c : (He.Fa.str x z).ok K = true) : ∃ t, mg x = some (.str z t) := by
  obtain ⟨h, X, G⟩ := T.ex
  exact He.str_ok X G c
theorem Tx.def_ (T : Tx K mg) (i : Nat) {d : He.DefD} (h : fn[i]? = some d := by rfl) : ∃ fd, FunD K d.name d.qual d.params d.body d.scope (d.dvs K) (d.kws K) (He.fAd K d.at_) fd := T.sd.def_ i h
theorem Tx.tab (T : Tx K mg) (i : Nat) {x : Str} {vs : List He.Dv} (h : tabs[i]? = some (x, vs) := by rfl) (H : Hp) : SqT K H (He.ga K x) (vs.map (He.Dv.v K)) :=
  He.tupB_ok (List.all_eq_true.mp (He.ba T.mo).1 (x, vs) (List.mem_of_getElem? h)) H
theorem Tx.oex (T : Tx K mg) (i : Nat) {x : Str} (h : excs[i]? = some x := by rfl) : OexC K (He.ga K x) ∧ PySem.W.findIn K (.ref (He.ga K x)) "__init__" = some (some (.ref (He.ma K (He.ga K x) "__init__"))) ∧ PySem.W.typeIn K (.ref (He.ma K (He.ga K x) "__init__")) = some (.type "function") ∧ XfC K (He.ga K x) :=
  oexB_ok (List.all_eq_true.mp (He.ba T.mo).2 x (List.mem_of_getElem? h))
theorem g_time_of (T : Tx K mg) : mg "time_of" = some (.ref (He.ga K "time_of")) := T.glo (T.fa 0)
theorem g_all_ways (T : Tx K mg) : mg "all_ways" = some (.ref (He.ga K "all_ways")) := T.glo (T.fa 1)
theorem g_best_way (T : Tx K mg) : mg "best_way" = some (.ref (He.ga K "best_way")) := T.glo (T.fa 2)
theorem g_is_way (T : Tx K mg) : mg "is_way" = some (.ref (He.ga K "is_way")) := T.glo (T.fa 3)
theorem g_is_choice (T : Tx K mg) : mg "is_choice" = some (.ref (He.ga K "is_choice")) := T.glo (T.fa 4)
theorem g_all_choices (T : Tx K mg) : mg "all_choices" = some (.ref (He.ga K "all_choices")) := T.glo (T.fa 5)
theorem g_best_choice (T : Tx K mg) : mg "best_choice" = some (.ref (He.ga K "best_choice")) := T.glo (T.fa 6)
theorem g_bytes_of (T : Tx K mg) : mg "bytes_of" = some (.ref (He.ga K "bytes_of")) := T.glo (T.fa 7)
theorem g_is_small (T : Tx K mg) : mg "is_small" = some (.ref (He.ga K "is_small")) := T.glo (T.fa 8)
theorem g_is_digit (T : Tx K mg) : mg "is_digit" = some (.ref (He.ga K "is_digit")) := T.glo (T.fa 9)
theorem g_is_in_word (T : Tx K mg) : mg "is_in_word" = some (.ref (He.ga K "is_in_word")) := T.glo (T.fa 10)
theorem g_number_of (T : Tx K mg) : mg "number_of" = some (.ref (He.ga K "number_of")) := T.glo (T.fa 11)
theorem g_word_at (T : Tx K mg) : mg "word_at" = some (.ref (He.ga K "word_at")) := T.glo (T.fa 12)
theorem g_number_at (T : Tx K mg) : mg "number_at" = some (.ref (He.ga K "number_at")) := T.glo (T.fa 13)
theorem g_token_at (T : Tx K mg) : mg "token_at" = some (.ref (He.ga K "token_at")) := T.glo (T.fa 14)
theorem g_known (T : Tx K mg) : mg "known" = some (.ref (He.ga K "known")) := T.glo (T.fa 15)
theorem g_new_name (T : Tx K mg) : mg "new_name" = some (.ref (He.ga K "new_name")) := T.glo (T.fa 16)
theorem g_read_group (T : Tx K mg) : mg "read_group" = some (.ref (He.ga K "read_group")) := T.glo (T.fa 17)
theorem g_take_right (T : Tx K mg) : mg "take_right" = some (.ref (He.ga K "take_right")) := T.glo (T.fa 18)
theorem g_read_behind (T : Tx K mg) : mg "read_behind" = some (.ref (He.ga K "read_behind")) := T.glo (T.fa 19)
theorem g_read_test (T : Tx K mg) : mg "read_test" = some (.ref (He.ga K "read_test")) := T.glo (T.fa 20)
theorem g_read_plan (T : Tx K mg) : mg "read_plan" = some (.ref (He.ga K "read_plan")) := T.glo (T.fa 21)
theorem g_digits_of (T : Tx K mg) : mg "digits_of" = some (.ref (He.ga K "digits_of")) := T.glo (T.fa 22)
theorem g_joined (T : Tx K mg) : mg "joined" = some (.ref (He.ga K "joined")) := T.glo (T.fa 23)
theorem g_test_line (T : Tx K mg) : mg "test_line" = some (.ref (He.ga K "test_line")) := T.glo (T.fa 24)
theorem g_plan_text (T : Tx K mg) : mg "plan_text" = some (.ref (He.ga K "plan_text")) := T.glo (T.fa 25)
theorem g_scaled (T : Tx K mg) : mg "scaled" = some (.ref (He.ga K "scaled")) := T.glo (T.fa 26)
theorem g_step_cost (T : Tx K mg) : mg "step_cost" = some (.ref (He.ga K "step_cost")) := T.glo (T.fa 27)
theorem g_group_behind (T : Tx K mg) : mg "group_behind" = some (.ref (He.ga K "group_behind")) := T.glo (T.fa 28)
theorem g_is_order (T : Tx K mg) : mg "is_order" = some (.ref (He.ga K "is_order")) := T.glo (T.fa 29)
theorem g_expected (T : Tx K mg) : mg "expected" = some (.ref (He.ga K "expected")) := T.glo (T.fa 30)
theorem g_may_run (T : Tx K mg) : mg "may_run" = some (.ref (He.ga K "may_run")) := T.glo (T.fa 31)
theorem g_best_order (T : Tx K mg) : mg "best_order" = some (.ref (He.ga K "best_order")) := T.glo (T.fa 32)
theorem g_comes_before (T : Tx K mg) : mg "comes_before" = some (.ref (He.ga K "comes_before")) := T.glo (T.fa 33)
theorem g_is_first (T : Tx K mg) : mg "is_first" = some (.ref (He.ga K "is_first")) := T.glo (T.fa 34)
theorem g_rule_order (T : Tx K mg) : mg "rule_order" = some (.ref (He.ga K "rule_order")) := T.glo (T.fa 35)
theorem g_refuse_where (T : Tx K mg) : mg "refuse_where" = some (.ref (He.ga K "refuse_where")) := T.glo (T.fa 36)
theorem g_load (T : Tx K mg) : mg "load" = some (.ref (He.ga K "load")) := T.glo (T.fa 37)
theorem g_expected_told (T : Tx K mg) : mg "expected_told" = some (.ref (He.ga K "expected_told")) := T.glo (T.fa 38)
theorem g_order_told (T : Tx K mg) : mg "order_told" = some (.ref (He.ga K "order_told")) := T.glo (T.fa 39)
theorem g_ask_machines (T : Tx K mg) : mg "ask_machines" = some (.ref (He.ga K "ask_machines")) := T.glo (T.fa 40)
theorem g_machines (T : Tx K mg) : mg "machines" = some (.ref (He.ga K "machines")) := T.glo (T.fa 41)
theorem g_time_told (T : Tx K mg) : mg "time_told" = some (.ref (He.ga K "time_told")) := T.glo (T.fa 42)
theorem g_budget (T : Tx K mg) : mg "budget" = some (.ref (He.ga K "budget")) := T.glo (T.fa 43)
theorem g_choice (T : Tx K mg) : mg "choice" = some (.ref (He.ga K "choice")) := T.glo (T.fa 44)
theorem g_size (T : Tx K mg) : mg "size" = some (.ref (He.ga K "size")) := T.glo (T.fa 45)
theorem g_told (T : Tx K mg) : mg "told" = some (.ref (He.ga K "told")) := T.glo (T.fa 46)
theorem g_told_or_refused (T : Tx K mg) : mg "told_or_refused" = some (.ref (He.ga K "told_or_refused")) := T.glo (T.fa 47)
theorem g_answers (T : Tx K mg) : mg "answers" = some (.ref (He.ga K "answers")) := T.glo (T.fa 48)
theorem g_Fault (T : Tx K mg) : mg "Fault" = some (.ref (He.ga K "Fault")) := T.glo (T.fa 49)
theorem g_Token (T : Tx K mg) : mg "Token" = some (.ref (He.ga K "Token")) := T.glo (T.fa 50)
theorem g_Reader (T : Tx K mg) : mg "Reader" = some (.ref (He.ga K "Reader")) := T.glo (T.fa 51)
theorem g_Group (T : Tx K mg) : mg "Group" = some (.ref (He.ga K "Group")) := T.glo (T.fa 52)
theorem g_Test (T : Tx K mg) : mg "Test" = some (.ref (He.ga K "Test")) := T.glo (T.fa 53)
theorem g_Plan (T : Tx K mg) : mg "Plan" = some (.ref (He.ga K "Plan")) := T.glo (T.fa 54)
theorem g_Search (T : Tx K mg) : mg "Search" = some (.ref (He.ga K "Search")) := T.glo (T.fa 55)
theorem g_Refused (T : Tx K mg) : mg "Refused" = some (.ref (He.ga K "Refused")) := T.glo (T.fa 56)
theorem g_Desk (T : Tx K mg) : mg "Desk" = some (.ref (He.ga K "Desk")) := T.glo (T.fa 57)
theorem g_WORDS (T : Tx K mg) : mg "WORDS" = some (.ref (He.ga K "WORDS")) := T.glo (T.fa 58)
theorem g_SIGNS (T : Tx K mg) : mg "SIGNS" = some (.ref (He.ga K "SIGNS")) := T.glo (T.fa 59)
theorem g_BLANKS (T : Tx K mg) : mg "BLANKS" = some (.ref (He.ga K "BLANKS")) := T.glo (T.fa 60)
theorem g_NUMBERS_OF (T : Tx K mg) : mg "NUMBERS_OF" = some (.ref (He.ga K "NUMBERS_OF")) := T.glo (T.fa 61)
theorem g_WITH_LIST (T : Tx K mg) : mg "WITH_LIST" = some (.ref (He.ga K "WITH_LIST")) := T.glo (T.fa 62)
theorem i_HASH (T : Tx K mg) : ∃ t, mg "HASH" = some (.int 35 t) := T.int (T.fa 63)
theorem i_LINE_END (T : Tx K mg) : ∃ t, mg "LINE_END" = some (.int 10 t) := T.int (T.fa 64)
theorem i_UNDERLINE (T : Tx K mg) : ∃ t, mg "UNDERLINE" = some (.int 95 t) := T.int (T.fa 65)
theorem i_MOST_WORD (T : Tx K mg) : ∃ t, mg "MOST_WORD" = some (.int 12 t) := T.int (T.fa 66)
theorem i_MOST_DIGITS (T : Tx K mg) : ∃ t, mg "MOST_DIGITS" = some (.int 4 t) := T.int (T.fa 67)
theorem i_MOST_NUMBER (T : Tx K mg) : ∃ t, mg "MOST_NUMBER" = some (.int 1000 t) := T.int (T.fa 68)
theorem i_NO_TOKEN (T : Tx K mg) : ∃ t, mg "NO_TOKEN" = some (.int 1 t) := T.int (T.fa 69)
theorem i_BAD_TOKEN (T : Tx K mg) : ∃ t, mg "BAD_TOKEN" = some (.int 2 t) := T.int (T.fa 70)
theorem i_NOT_HERE (T : Tx K mg) : ∃ t, mg "NOT_HERE" = some (.int 3 t) := T.int (T.fa 71)
theorem i_TOO_SHORT (T : Tx K mg) : ∃ t, mg "TOO_SHORT" = some (.int 4 t) := T.int (T.fa 72)
theorem i_TOO_MUCH (T : Tx K mg) : ∃ t, mg "TOO_MUCH" = some (.int 5 t) := T.int (T.fa 73)
theorem i_TWICE (T : Tx K mg) : ∃ t, mg "TWICE" = some (.int 6 t) := T.int (T.fa 74)
theorem i_UNKNOWN (T : Tx K mg) : ∃ t, mg "UNKNOWN" = some (.int 7 t) := T.int (T.fa 75)
theorem i_NOT_RIGHT (T : Tx K mg) : ∃ t, mg "NOT_RIGHT" = some (.int 8 t) := T.int (T.fa 76)
theorem i_MOST_GROUPS (T : Tx K mg) : ∃ t, mg "MOST_GROUPS" = some (.int 3 t) := T.int (T.fa 77)
theorem i_MOST_TESTS (T : Tx K mg) : ∃ t, mg "MOST_TESTS" = some (.int 7 t) := T.int (T.fa 78)
theorem i_MOST_CHANCE (T : Tx K mg) : ∃ t, mg "MOST_CHANCE" = some (.int 100 t) := T.int (T.fa 79)
theorem i_NO_GROUP (T : Tx K mg) : ∃ t, mg "NO_GROUP" = some (.int (-1) t) := T.int (T.fa 80)
theorem i_HUNDRED (T : Tx K mg) : ∃ t, mg "HUNDRED" = some (.int 100 t) := T.int (T.fa 81)
theorem i_LOAD (T : Tx K mg) : ∃ t, mg "LOAD" = some (.int 0 t) := T.int (T.fa 82)
theorem i_EXPECTED (T : Tx K mg) : ∃ t, mg "EXPECTED" = some (.int 2 t) := T.int (T.fa 83)
theorem i_MACHINES (T : Tx K mg) : ∃ t, mg "MACHINES" = some (.int 5 t) := T.int (T.fa 84)
theorem i_TIME (T : Tx K mg) : ∃ t, mg "TIME" = some (.int 6 t) := T.int (T.fa 85)
theorem i_BUDGET (T : Tx K mg) : ∃ t, mg "BUDGET" = some (.int 7 t) := T.int (T.fa 86)
theorem i_CHOICE (T : Tx K mg) : ∃ t, mg "CHOICE" = some (.int 8 t) := T.int (T.fa 87)
theorem i_NO_BYTES (T : Tx K mg) : ∃ t, mg "NO_BYTES" = some (.int (-1) t) := T.int (T.fa 88)
theorem i_TOO_LONG (T : Tx K mg) : ∃ t, mg "TOO_LONG" = some (.int (-2) t) := T.int (T.fa 89)
theorem i_NOT_SO (T : Tx K mg) : ∃ t, mg "NOT_SO" = some (.int (-7) t) := T.int (T.fa 90)
theorem i_NO_LIST (T : Tx K mg) : ∃ t, mg "NO_LIST" = some (.int (-12) t) := T.int (T.fa 91)
theorem i_MOST_BYTES (T : Tx K mg) : ∃ t, mg "MOST_BYTES" = some (.int 4096 t) := T.int (T.fa 92)
theorem i_MOST_MACHINES (T : Tx K mg) : ∃ t, mg "MOST_MACHINES" = some (.int 3 t) := T.int (T.fa 93)
theorem i_MOST_BUDGET (T : Tx K mg) : ∃ t, mg "MOST_BUDGET" = some (.int 100000 t) := T.int (T.fa 94)
theorem s_NAME (T : Tx K mg) : ∃ t, mg "NAME" = some (.str "a name" t) := T.str (T.fa 95)
theorem s_NUMBER (T : Tx K mg) : ∃ t, mg "NUMBER" = some (.str "a number" t) := T.str (T.fa 96)
theorem s_END (T : Tx K mg) : ∃ t, mg "END" = some (.str "the end" t) := T.str (T.fa 97)
theorem f_range (T : Tx K mg) : mg "range" = none := T.free (T.fa 98)
theorem f_max (T : Tx K mg) : mg "max" = none := T.free (T.fa 99)
theorem f_len (T : Tx K mg) : mg "len" = none := T.free (T.fa 100)
theorem f_all (T : Tx K mg) : mg "all" = none := T.free (T.fa 101)
theorem f_set (T : Tx K mg) : mg "set" = none := T.free (T.fa 102)
theorem f_enumerate (T : Tx K mg) : mg "enumerate" = none := T.free (T.fa 103)
theorem f_tuple (T : Tx K mg) : mg "tuple" = none := T.free (T.fa 104)
theorem f_ord (T : Tx K mg) : mg "ord" = none := T.free (T.fa 105)
theorem f_sum (T : Tx K mg) : mg "sum" = none := T.free (T.fa 106)
theorem f_sorted (T : Tx K mg) : mg "sorted" = none := T.free (T.fa 107)
theorem f_list (T : Tx K mg) : mg "list" = none := T.free (T.fa 108)
theorem f_min (T : Tx K mg) : mg "min" = none := T.free (T.fa 109)
theorem c_Token (T : Tx K mg) : Cls K (He.ga K "Token") := He.cls_ok (T.fa 110)
theorem mk_Token (T : Tx K mg) : Mk K (He.ga K "Token") (He.ma K (He.ga K "Token") "__init__") := He.mkr_ok (T.fa 111)
theorem n_Token_mark (T : Tx K mg) : NoAttr K (He.ga K "Token") "mark" := He.noat_ok (T.fa 112)
theorem n_Token_some (T : Tx K mg) : NoAttr K (He.ga K "Token") "some" := He.noat_ok (T.fa 113)
theorem n_Token_place (T : Tx K mg) : NoAttr K (He.ga K "Token") "place" := He.noat_ok (T.fa 114)
theorem m_Token_fault (T : Tx K mg) : Meth K (He.ga K "Token") "fault" (He.ma K (He.ga K "Token") "fault") := He.meth_ok (T.fa 115)
theorem c_Reader (T : Tx K mg) : Cls K (He.ga K "Reader") := He.cls_ok (T.fa 116)
theorem mk_Reader (T : Tx K mg) : Mk K (He.ga K "Reader") (He.ma K (He.ga K "Reader") "__init__") := He.mkr_ok (T.fa 117)
theorem n_Reader_text (T : Tx K mg) : NoAttr K (He.ga K "Reader") "text" := He.noat_ok (T.fa 118)
theorem n_Reader_at (T : Tx K mg) : NoAttr K (He.ga K "Reader") "at" := He.noat_ok (T.fa 119)
theorem n_Reader_seen (T : Tx K mg) : NoAttr K (He.ga K "Reader") "seen" := He.noat_ok (T.fa 120)
theorem m_Reader_begin (T : Tx K mg) : Meth K (He.ga K "Reader") "begin" (He.ma K (He.ga K "Reader") "begin") := He.meth_ok (T.fa 121)
theorem m_Reader_now (T : Tx K mg) : Meth K (He.ga K "Reader") "now" (He.ma K (He.ga K "Reader") "now") := He.meth_ok (T.fa 122)
theorem m_Reader_is_now (T : Tx K mg) : Meth K (He.ga K "Reader") "is_now" (He.ma K (He.ga K "Reader") "is_now") := He.meth_ok (T.fa 123)
theorem m_Reader_take (T : Tx K mg) : Meth K (He.ga K "Reader") "take" (He.ma K (He.ga K "Reader") "take") := He.meth_ok (T.fa 124)
theorem c_Group (T : Tx K mg) : Cls K (He.ga K "Group") := He.cls_ok (T.fa 125)
theorem mk_Group (T : Tx K mg) : Mk K (He.ga K "Group") (He.ma K (He.ga K "Group") "__init__") := He.mkr_ok (T.fa 126)
theorem n_Group_name (T : Tx K mg) : NoAttr K (He.ga K "Group") "name" := He.noat_ok (T.fa 127)
theorem n_Group_cost (T : Tx K mg) : NoAttr K (He.ga K "Group") "cost" := He.noat_ok (T.fa 128)
theorem c_Test (T : Tx K mg) : Cls K (He.ga K "Test") := He.cls_ok (T.fa 129)
theorem mk_Test (T : Tx K mg) : Mk K (He.ga K "Test") (He.ma K (He.ga K "Test") "__init__") := He.mkr_ok (T.fa 130)
theorem n_Test_name (T : Tx K mg) : NoAttr K (He.ga K "Test") "name" := He.noat_ok (T.fa 131)
theorem n_Test_cost (T : Tx K mg) : NoAttr K (He.ga K "Test") "cost" := He.noat_ok (T.fa 132)
theorem n_Test_chance (T : Tx K mg) : NoAttr K (He.ga K "Test") "chance" := He.noat_ok (T.fa 133)
theorem n_Test_group (T : Tx K mg) : NoAttr K (He.ga K "Test") "group" := He.noat_ok (T.fa 134)
theorem n_Test_behind (T : Tx K mg) : NoAttr K (He.ga K "Test") "behind" := He.noat_ok (T.fa 135)
theorem c_Plan (T : Tx K mg) : Cls K (He.ga K "Plan") := He.cls_ok (T.fa 136)
theorem mk_Plan (T : Tx K mg) : Mk K (He.ga K "Plan") (He.ma K (He.ga K "Plan") "__init__") := He.mkr_ok (T.fa 137)
theorem n_Plan_groups (T : Tx K mg) : NoAttr K (He.ga K "Plan") "groups" := He.noat_ok (T.fa 138)
theorem n_Plan_tests (T : Tx K mg) : NoAttr K (He.ga K "Plan") "tests" := He.noat_ok (T.fa 139)
theorem m_Plan_setup (T : Tx K mg) : Meth K (He.ga K "Plan") "setup" (He.ma K (He.ga K "Plan") "setup") := He.meth_ok (T.fa 140)
theorem m_Plan_cost_of (T : Tx K mg) : Meth K (He.ga K "Plan") "cost_of" (He.ma K (He.ga K "Plan") "cost_of") := He.meth_ok (T.fa 141)
theorem m_Plan_is_closed (T : Tx K mg) : Meth K (He.ga K "Plan") "is_closed" (He.ma K (He.ga K "Plan") "is_closed") := He.meth_ok (T.fa 142)
theorem m_Plan_missed (T : Tx K mg) : Meth K (He.ga K "Plan") "missed" (He.ma K (He.ga K "Plan") "missed") := He.meth_ok (T.fa 143)
theorem c_Search (T : Tx K mg) : Cls K (He.ga K "Search") := He.cls_ok (T.fa 144)
theorem mk_Search (T : Tx K mg) : Mk K (He.ga K "Search") (He.ma K (He.ga K "Search") "__init__") := He.mkr_ok (T.fa 145)
theorem n_Search_plan (T : Tx K mg) : NoAttr K (He.ga K "Search") "plan" := He.noat_ok (T.fa 146)
theorem n_Search_known (T : Tx K mg) : NoAttr K (He.ga K "Search") "known" := He.noat_ok (T.fa 147)
theorem m_Search_from_on (T : Tx K mg) : Meth K (He.ga K "Search") "from_on" (He.ma K (He.ga K "Search") "from_on") := He.meth_ok (T.fa 148)
theorem m_Search_least (T : Tx K mg) : Meth K (He.ga K "Search") "least" (He.ma K (He.ga K "Search") "least") := He.meth_ok (T.fa 149)
theorem m_Search_order (T : Tx K mg) : Meth K (He.ga K "Search") "order" (He.ma K (He.ga K "Search") "order") := He.meth_ok (T.fa 150)
theorem c_Desk (T : Tx K mg) : Cls K (He.ga K "Desk") := He.cls_ok (T.fa 151)
theorem mk_Desk (T : Tx K mg) : Mk K (He.ga K "Desk") (He.ma K (He.ga K "Desk") "__init__") := He.mkr_ok (T.fa 152)
theorem n_Desk_plan (T : Tx K mg) : NoAttr K (He.ga K "Desk") "plan" := He.noat_ok (T.fa 153)
theorem n_Fault_kind (T : Tx K mg) : PySem.W.findIn K (.ref (He.ga K "Fault")) "kind" = some none := He.noat_ok (T.fa 154)
theorem n_Fault_place (T : Tx K mg) : PySem.W.findIn K (.ref (He.ga K "Fault")) "place" = some none := He.noat_ok (T.fa 155)
theorem x_Fault (T : Tx K mg) : PySem.W.exmOne K (.ref (He.ga K "Fault")) (.ref (He.ga K "Fault")) = some true := He.exm_ok (T.fa 156)
theorem n_Refused_code (T : Tx K mg) : PySem.W.findIn K (.ref (He.ga K "Refused")) "code" = some none := He.noat_ok (T.fa 157)
theorem x_Refused (T : Tx K mg) : PySem.W.exmOne K (.ref (He.ga K "Refused")) (.ref (He.ga K "Refused")) = some true := He.exm_ok (T.fa 158)
theorem x_RefusedFault (T : Tx K mg) : PySem.W.exmOne K (.ref (He.ga K "Refused")) (.ref (He.ga K "Fault")) = some false := He.exm_ok (T.fa 159)
theorem t_WORDS (T : Tx K mg) (H : Hp) : SqT K H (He.ga K "WORDS") [V.str "group", V.str "test", V.str "cost", V.str "chance", V.str "in", V.str "after"] := T.tab 0 rfl H
theorem t_SIGNS (T : Tx K mg) (H : Hp) : SqT K H (He.ga K "SIGNS") [V.str ",", V.str ";"] := T.tab 1 rfl H
theorem t_BLANKS (T : Tx K mg) (H : Hp) : SqT K H (He.ga K "BLANKS") [V.int 9, V.int 10, V.int 13, V.int 32] := T.tab 2 rfl H
theorem t_NUMBERS_OF (T : Tx K mg) (H : Hp) : SqT K H (He.ga K "NUMBERS_OF") [V.int 0, V.int 0, V.int 0, V.int 0, V.int 0, V.int 1, V.int 1, V.int 1, V.int 0, V.int 0] := T.tab 3 rfl H
theorem t_WITH_LIST (T : Tx K mg) (H : Hp) : SqT K H (He.ga K "WITH_LIST") [V.int 0, V.int 2, V.int 6, V.int 8] := T.tab 4 rfl H
theorem o_Fault (T : Tx K mg) : OexC K (He.ga K "Fault") ∧ PySem.W.findIn K (.ref (He.ga K "Fault")) "__init__" = some (some (.ref (He.ma K (He.ga K "Fault") "__init__"))) ∧ PySem.W.typeIn K (.ref (He.ma K (He.ga K "Fault") "__init__")) = some (.type "function") ∧ XfC K (He.ga K "Fault") := T.oex 0 rfl
theorem o_Refused (T : Tx K mg) : OexC K (He.ga K "Refused") ∧ PySem.W.findIn K (.ref (He.ga K "Refused")) "__init__" = some (some (.ref (He.ma K (He.ga K "Refused") "__init__"))) ∧ PySem.W.typeIn K (.ref (He.ma K (He.ga K "Refused") "__init__")) = some (.type "function") ∧ XfC K (He.ga K "Refused") := T.oex 1 rfl
end
end
section
section
variable (P : Program) (w : World) (K : PySem.W.Frag) (mg : Str → Option Value) (base : Heap)
/-- the module's def x keeps sp, wherever k rooms are left -/
def Cal (k : Nat) (x : Str) (sp : Sp) : Prop :=
  ∃ (f : Addr) (fd : FuncData) (ps : List Str), FnOk P w K mg base (L2.CX P w) k f fd ps sp ∧ mg x = some (.ref f) ∧ PySem.W.keepIn K (.ref f) = true ∧ Binds K fd ps []
/-- the method m of the class x keeps sp -/
def Met (k : Nat) (x m : Str) (sp : Sp) : Prop :=
  ∃ (f : Addr) (fd : FuncData) (ps : List Str), Cls K (He.ga K x) ∧ Meth K (He.ga K x) m f ∧ FnOk P w K mg base (L2.CX P w) k f fd ps sp ∧ Binds K fd ps []
/-- the class x is made by an __init__ that keeps sp -/
def Mak (k : Nat) (x : Str) (sp : Sp) : Prop :=
  ∃ (f : Addr) (fd : FuncData) (ps : List Str), Mk K (He.ga K x) f ∧ FnOk P w K mg base (L2.CX P w) k f fd ps sp ∧ mg x = some (.ref (He.ga K x)) ∧ Binds K fd ps []
end
section
variable {P : Program} {w : World} {K : PySem.W.Frag} {mg : Str → Option Value} {base : Heap} {k : Nat} {x m qual : Str} {sp : Sp} {params : Arguments} {body : List Stmt} {scope : Scope} {f : Addr} {fd : FuncData} {N ps : List Str}
/-- what a def's body has to show -/
abbrev BodyOk (P : Program) (w : World) (K : PySem.W.Frag) (mg : Str → Option Value) (base : Heap) (k : Nat) (N : List Str) (qual : Str) (body : List Stmt) (scope : Scope) (f : Addr) (sp : Sp) : Prop :=
  ∀ (cdv : Value) (A : Around) (outer : List Env) (s : Shared) (H : Hp) (vs : List V) (Q : VK) (E : XK), Room k (A.deeper (envOfC qual scope s.heap.objs.size f cdv)) → sp vs H Q E →
      ∃ t, PSs (cxOf (L2.CX P w) P w K mg base N qual scope f cdv A outer s H E) body t ∧ t { nx := fun _ H' => Q .non H', rt := Q } (start N vs) H
theorem cal_of (F : FunD K x x params body scope [] [] f fd) (hm : mg x = some (.ref f)) (S : FnScope N ps scope)
    (hb : ∀ (kV doc pm : Value) (an : Option Addr) (cdv ct : Value) (us : List Value), us.length = ps.length → bindArgs (PySem.W.fnOf x x params body scope .none kV doc pm an cdv ct) ⟨us, []⟩ = pure (ps.zip us))
    (len : ∀ vs H Q E, sp vs H Q E → vs.length = ps.length) (hbody : BodyOk P w K mg base k N x body scope f sp) : Cal P w K mg base (k + 1) x sp :=
  ⟨f, fd, ps, F.ok S len hbody, hm, F.kp, F.bindsN hb⟩
theorem met_of (F : FunD K m qual params body scope [] [] f fd) (c : Cls K (He.ga K x)) (me : Meth K (He.ga K x) m f) (S : FnScope N ps scope)
    (hb : ∀ (kV doc pm : Value) (an : Option Addr) (cdv ct : Value) (us : List Value), us.length = ps.length → bindArgs (PySem.W.fnOf m qual params body scope .none kV doc pm an cdv ct) ⟨us, []⟩ = pure (ps.zip us))
    (len : ∀ vs H Q E, sp vs H Q E → vs.length = ps.length) (hbody : BodyOk P w K mg base k N qual body scope f sp) : Met P w K mg base (k + 1) x m sp :=
  ⟨f, fd, ps, c, me, F.ok S len hbody, F.bindsN hb⟩
theorem mak_of (F : FunD K "__init__" qual params body scope [] [] f fd) (M : Mk K (He.ga K x) f) (hm : mg x = some (.ref (He.ga K x))) (S : FnScope N ps scope)
    (hb : ∀ (kV doc pm : Value) (an : Option Addr) (cdv ct : Value) (us : List Value), us.length = ps.length → bindArgs (PySem.W.fnOf "__init__" qual params body scope .none kV doc pm an cdv ct) ⟨us, []⟩ = pure (ps.zip us))
    (len : ∀ vs H Q E, sp vs H Q E → vs.length = ps.length) (hbody : BodyOk P w K mg base k N qual body scope f sp) : Mak P w K mg base (k + 1) x sp :=
  ⟨f, fd, ps, M, F.ok S len hbody, hm, F.bindsN hb⟩
end
section
variable {X : Cx} {k j : Nat} {x m : Str} {sp : Sp} {E : XK} {p pos apos : Pos} {e o : Expr} {es : List Expr} {ta : TE} {t : TA}
theorem pe_c (c : Cal X.prog X.w X.K X.mg X.base k x sp) (hr : Room j X.A) (hk : k ≤ j) (hx : Passes (L2.CX X.prog X.w) X E) (ha : PA X (e :: es) t) (hg : Gl X x := by rfl)
    (hdb : (x == ("__debug__" : Str)) = false := by decide) (he : starEach (e :: es) X.env = (false, eval e X.env) :: starEach es X.env := by rfl) (hpl : (backTo pos (starEach es X.env)).any (·.1) = false := by rfl) :
    PE X (.Call (.Name x p) (e :: es) [] pos) (tCall sp [] E t) := by
  obtain ⟨f, fd, ps, F, hm, kp, b⟩ := c
  exact pe_call F (hr.mono hk) hg hm kp b .nil hx ha hdb he hpl
theorem pe_mk (c : Mak X.prog X.w X.K X.mg X.base k x sp) (hr : Room j X.A) (hk : k + 1 ≤ j) (hx : Passes (L2.CX X.prog X.w) X E) (ha : PA X (e :: es) t) (hg : Gl X x := by rfl)
    (hdb : (x == ("__debug__" : Str)) = false := by decide) (he : starEach (e :: es) X.env = (false, eval e X.env) :: starEach es X.env := by rfl) (hpl : (backTo pos (starEach es X.env)).any (·.1) = false := by rfl) :
    PE X (.Call (.Name x p) (e :: es) [] pos) (tMake (He.ga X.K x) sp [] E t) := by
  obtain ⟨f, fd, ps, M, F, hm, b⟩ := c
  exact pe_make M F (hr.mono hk) hg hm b .nil hx ha hdb he hpl
theorem pe_mk0 (c : Mak X.prog X.w X.K X.mg X.base k x sp) (hr : Room j X.A) (hk : k + 1 ≤ j) (hx : Passes (L2.CX X.prog X.w) X E) (hg : Gl X x := by rfl)
    (hdb : (x == ("__debug__" : Str)) = false := by decide) : PE X (.Call (.Name x p) [] [] pos) (tMake (He.ga X.K x) sp [] E tNil) := by
  obtain ⟨f, fd, ps, M, F, hm, b⟩ := c
  exact pe_make0 M F (hr.mono hk) hg hm b .nil hx hdb
theorem pe_mt {pl : Sem Bool} (c : Met X.prog X.w X.K X.mg X.base k x m sp) (hr : Room j X.A) (hk : k ≤ j) (hx : Passes (L2.CX X.prog X.w) X E) (he : PE X o ta) (ha : PA X (e :: es) t)
    (hst : starEach (e :: es) X.env = (false, eval e X.env) :: starEach es X.env := by rfl) (hpl : (backTo pos (starEach es X.env)).any (·.1) = false := by rfl)
    (ht : eval (.Call (.Attribute o m apos) (e :: es) [] pos) X.env = (do
      let ov ← eval o X.env
      standAt apos.atName
      let (f, first) ← holding [ov] (getMethod ov m pl)
      callWith pos f first (backTo pos (starEach (e :: es) X.env)) (backToKw pos (keywordEach [] X.env))) := by rfl) :
    PE X (.Call (.Attribute o m apos) (e :: es) [] pos) (tMeth (He.ga X.K x) m sp [] E ta t) := by
  obtain ⟨f, fd, ps, hc, hm, F, b⟩ := c
  exact pe_meth (pl := pl) he hc hm F (hr.mono hk) b .nil hx ha hst hpl ht
theorem pe_mt0 {pl : Sem Bool} (c : Met X.prog X.w X.K X.mg X.base k x m sp) (hr : Room j X.A) (hk : k ≤ j) (hx : Passes (L2.CX X.prog X.w) X E) (he : PE X o ta)
    (ht : eval (.Call (.Attribute o m apos) [] [] pos) X.env = (do
      let ov ← eval o X.env
      standAt apos.atName
      let (f, first) ← holding [ov] (getMethod ov m pl)
      callWith pos f first (backTo pos (starEach [] X.env)) (backToKw pos (keywordEach [] X.env))) := by rfl) :
    PE X (.Call (.Attribute o m apos) [] [] pos) (tMeth (He.ga X.K x) m sp [] E ta tNil) := by
  obtain ⟨f, fd, ps, hc, hm, F, b⟩ := c
  exact pe_meth0 (pl := pl) he hc hm F (hr.mono hk) b .nil hx ht
/-- an unpacking target, its frag told -/
theorem pg_tupK {K : PySem.W.Frag} {es : List Expr} {k : Nat} {t : TGs} {n : Nat} (hK : X.K = K) (hc : X.calm = true) (h : PGs X es t)
    (hn : (assignEach es X.env).length = n := by rfl) (hst : (assignEach es X.env).findIdx? (·.1) = none := by rfl) : PG X (.Tuple es k pos) (gTup K n t) := by
  subst hK
  exact pg_tup hc h hn hst
/-- a module's number, text, table -/
theorem pe_gi {i : Int} (h : ∃ t, X.mg x = some (.int i t)) (hg : Gl X x := by rfl) (hd : (x == ("__debug__" : Str)) = false := by decide) : PE X (.Name x pos) (tC (.int i)) := by
  obtain ⟨t, e⟩ := h
  exact pe_glob hg e ⟨t, rfl⟩ hd
theorem pe_gs {z : Str} (h : ∃ t, X.mg x = some (.str z t)) (hg : Gl X x := by rfl) (hd : (x == ("__debug__" : Str)) = false := by decide) : PE X (.Name x pos) (tC (.str z)) := by
  obtain ⟨t, e⟩ := h
  exact pe_glob hg e ⟨t, rfl⟩ hd
theorem pe_gr {a : Addr} (h : X.mg x = some (.ref a)) (hg : Gl X x := by rfl) (hd : (x == ("__debug__" : Str)) = false := by decide) : PE X (.Name x pos) (tC (.ref a)) := pe_glob hg h rfl hd
end
/-! ### the row's end, from the hook -/
theorem walk_hook {r : PySem.W.OpenSpec} {k : Nat} {q : Program} {loose : List Str} {XP : (Str → Option Value) → Heap → Prop} {YP : World → Heap → Prop} {d : DefRec} {ps : List Str} {sp : PySem.W.Frag → Sp}
    (hwell : r.wellSaid = true) (hlen : r.args.length = ps.length) (hr : Room k callerA)
    (F : ∀ (w : World) (mg : Str → Option Value) (fa : Addr) (h : Heap), YP w h → h.Ns mainGlobals mg → mg d.name = some (.ref fa) →
      ∃ (K : PySem.W.Frag) (fd : FuncData), K.In h ∧ (∀ (s : Shared) (us : List Value), us.length = ps.length → BindsTo s fd ⟨us, []⟩ (ps.zip us)) ∧
        ∀ base : Heap, K.In base → base.Ns mainGlobals mg → FnOk r.prog w K mg base (L2.CX r.prog w) k fa fd ps (sp K))
    (hsp : ∀ (K : PySem.W.Frag) (H : Hp) (xs : List V) (a : PySem.W.Codec.denoteAll r.args), OnlyF H → PySem.W.Codec.withinAll r.args a = true → PySem.W.Codec.app r.args r.asked a = true → DwAll K H xs (PySem.W.Codec.encAll r.args a) →
      sp K xs H (fun v H' => Dw K H' v (r.ret.enc (PySem.W.Codec.app r.args r.f a))) fun _ _ _ => False) :
    PySem.W.WalkOS q loose XP YP r d [] (fun f vs => PySem.call f vs) := by
  intro w s0 s1 mg mb G Y fa o pm cd doc dV kV ho hd hcd hD hmg hg args vals as hpre hlay hrd hwl hlo
  obtain ⟨a, e1, e2⟩ := PySem.W.os_pre_some hpre
  obtain ⟨e3, hwi⟩ := PySem.W.Codec.encAll_of_decAll r.args args a e1
  subst e3
  obtain ⟨K, fd, KX, hb, hF⟩ := F w mg fa _ Y G.T.g hmg
  have fin := spec_call (R := []) (cl := classAt s0.heap) (d0 := r.ret.enc (PySem.W.Codec.app r.args r.f a)) KX G.T.g G.T.b G.T.builtins G.T.nolimit hg hwl (pl_encAll _ _) (layable_weight hlay) hr hF hb
    (by rw [encAll_len]; exact hlen) (fun H xs hO hS => hsp K H xs a hO hwi e2 hS)
    (fun H e s' hc => by obtain ⟨_, _, _, _, _, _, _, _, _, _, _, _, z⟩ := hc; exact z)
  refine PySem.W.enter_call (codeAny_mono fin fun r' s' hq => ?_)
  obtain ⟨u, as', rfl, h1, h2, h3, h4⟩ := hq
  refine ⟨.inl ⟨u, _, as', rfl, fun _ => rfl, h1, (PySem.W.OpenSpec.post_iff hwell hwi _ _).mpr rfl, fun z => Bool.noConfusion (show false = true from z)⟩, h2, h3, h4⟩
end
end Tp
end
section
set_option autoImplicit false
namespace Tp
open Vatsld
section
/-- the first place from i on where p fails (or the end) -/
def skipTo (p : Nat → Bool) (t : Text) (i : Nat) : Nat := i + ((t.drop i).takeWhile p).length

theorem drop_cons {α : Type} {t : List α} {i : Nat} {c : α} (h : t[i]? = some c) : t.drop i = c :: t.drop (i + 1) := by
  obtain ⟨hi, e⟩ := List.getElem?_eq_some_iff.mp h
  rw [List.drop_eq_getElem_cons hi, e]

theorem drop_ge {α : Type} {t : List α} {i : Nat} (h : t.length ≤ i) : t.drop i = [] := List.drop_eq_nil_of_le h

theorem skipTo_step {p : Nat → Bool} {t : Text} {i c : Nat} (h : t[i]? = some c) (hp : p c = true) : skipTo p t i = skipTo p t (i + 1) := by
  unfold skipTo
  rw [drop_cons h, List.takeWhile_cons, if_pos hp, List.length_cons]
  omega
theorem skipTo_stop {p : Nat → Bool} {t : Text} {i c : Nat} (h : t[i]? = some c) (hp : p c = false) : skipTo p t i = i := by
  unfold skipTo
  rw [drop_cons h, List.takeWhile_cons, if_neg (by rw [hp]; decide)]
  rfl
theorem skipTo_end {p : Nat → Bool} {t : Text} {i : Nat} (h : t.length ≤ i) : skipTo p t i = i := by
  unfold skipTo
  rw [drop_ge h]
  rfl
theorem takeWhile_le {α : Type} (p : α → Bool) : ∀ l : List α, (l.takeWhile p).length ≤ l.length
  | [] => Nat.le_refl _
  | a :: r => by
    rw [List.takeWhile_cons]
    split
    · have := takeWhile_le p r
      simp only [List.length_cons]
      omega
    · exact Nat.zero_le _
theorem skipTo_le {p : Nat → Bool} {t : Text} {i : Nat} (h : i ≤ t.length) : skipTo p t i ≤ t.length := by
  unfold skipTo
  have := takeWhile_le p (t.drop i)
  rw [List.length_drop] at this
  omega
theorem le_skipTo {p : Nat → Bool} {t : Text} {i : Nat} : i ≤ skipTo p t i := Nat.le_add_right _ _
theorem dropWhile_drop {α : Type} (p : α → Bool) : ∀ l : List α, l.dropWhile p = l.drop (l.takeWhile p).length
  | [] => rfl
  | a :: r => by
    rw [List.takeWhile_cons, List.dropWhile_cons]
    split
    · rw [List.length_cons, List.drop_succ_cons, dropWhile_drop p r]
    · rfl
theorem take_takeWhile {α : Type} (p : α → Bool) : ∀ l : List α, l.take (l.takeWhile p).length = l.takeWhile p
  | [] => rfl
  | a :: r => by
    rw [List.takeWhile_cons]
    split
    · rw [List.length_cons, List.take_succ_cons, take_takeWhile p r]
    · rfl
theorem drop_skipTo {p : Nat → Bool} {t : Text} {i : Nat} : t.drop (skipTo p t i) = (t.drop i).dropWhile p := by
  unfold skipTo
  rw [dropWhile_drop, List.drop_drop]

theorem dropWhile_le {α : Type} (p : α → Bool) (l : List α) : (l.dropWhile p).length ≤ l.length := by
  rw [dropWhile_drop, List.length_drop]
  omega
/-- the steps don't matter -/
theorem tokensIn_fuel (w : Nat) : ∀ (n k k' : Nat) (t : Text), t.length ≤ n → t.length < k → t.length < k' → tokensIn w k t = tokensIn w k' t
  | n, 0, _, t, _, h, _ => absurd h (Nat.not_lt_zero _)
  | n, _ + 1, 0, t, _, _, h => absurd h (Nat.not_lt_zero _)
  | n, k + 1, k' + 1, [], _, _, _ => rfl
  | 0, k + 1, k' + 1, c :: r, h, _, _ => absurd h (by simp)
  | n + 1, k + 1, k' + 1, c :: r, h, h1, h2 => by
    have e1 : r.length ≤ n := by simpa using h
    have e2 : r.length < k := by simpa using h1
    have e3 : r.length < k' := by simpa using h2
    have dw : ∀ p : Nat → Bool, tokensIn w k (r.dropWhile p) = tokensIn w k' (r.dropWhile p) := fun p =>
      tokensIn_fuel w n k k' _ (Nat.le_trans (dropWhile_le p r) e1) (Nat.lt_of_le_of_lt (dropWhile_le p r) e2) (Nat.lt_of_le_of_lt (dropWhile_le p r) e3)
    have dr := tokensIn_fuel w n k k' r e1 e2 e3
    simp only [tokensIn, dw, dr]

/-- the tokens from a place on -/
def toksAt (t : Text) (i : Nat) : Toks := tokensIn t.length (t.length - i + 1) (t.drop i)
theorem toksAt_zero (t : Text) : toksAt t 0 = tokens t := by
  unfold toksAt tokens
  rw [Nat.sub_zero, List.drop_zero]
theorem toksAt_of {t : Text} {i k : Nat} (h : (t.drop i).length < k) : tokensIn t.length k (t.drop i) = toksAt t i := by
  unfold toksAt
  exact tokensIn_fuel _ _ _ _ _ (Nat.le_refl _) h (by rw [List.length_drop]; omega)
theorem toksAt_end {t : Text} {i : Nat} (h : t.length ≤ i) : toksAt t i = [(t.length, .over)] := by
  unfold toksAt
  rw [drop_ge h]
  rfl
/-- one turn -/
theorem toksAt_cons {t : Text} {i c : Nat} (h : t[i]? = some c) : toksAt t i =
    if blank c then toksAt t (i + 1)
    else if c == 35 then toksAt t (skipTo (fun x => x != 10) t (i + 1))
    else if small c then (if 12 < (c :: (t.drop (i + 1)).takeWhile inner).length then [(i, .bad 2)] else (i, .word (c :: (t.drop (i + 1)).takeWhile inner)) :: toksAt t (skipTo inner t (i + 1)))
    else if digit c then (if goodNumber (c :: (t.drop (i + 1)).takeWhile digit) then (i, .num (valueIn (c :: (t.drop (i + 1)).takeWhile digit))) :: toksAt t (skipTo digit t (i + 1)) else [(i, .bad 2)])
    else if c == 44 || c == 59 then (i, .sign c) :: toksAt t (i + 1)
    else [(i, .bad 1)] := by
  obtain ⟨hi, e⟩ := List.getElem?_eq_some_iff.mp h
  have el : (t.drop (i + 1)).length < t.length - i := by rw [List.length_drop]; omega
  have p0 : t.length - ((t.drop (i + 1)).length + 1) = i := by rw [List.length_drop]; omega
  have dr : tokensIn t.length (t.length - i) (t.drop (i + 1)) = toksAt t (i + 1) := toksAt_of el
  have dw : ∀ p : Nat → Bool, tokensIn t.length (t.length - i) ((t.drop (i + 1)).dropWhile p) = toksAt t (skipTo p t (i + 1)) := fun p => by
    rw [← drop_skipTo]
    refine toksAt_of ?_
    rw [drop_skipTo]
    exact Nat.lt_of_le_of_lt (dropWhile_le p _) el
  show tokensIn t.length (t.length - i + 1) (t.drop i) = _
  rw [drop_cons h]
  simp only [tokensIn, dr, dw, p0, WORD]

/-- a byte that parts tokens, or begins a remark -/
def gap (c : Nat) : Bool := blank c || c == 35
/-- over a blank -/
theorem toksAt_blank {t : Text} {i c : Nat} (h : t[i]? = some c) (hb : blank c = true) : toksAt t i = toksAt t (i + 1) := by
  rw [toksAt_cons h, if_pos hb]
/-- over a remark -/
theorem toksAt_remark {t : Text} {i : Nat} (h : t[i]? = some 35) : toksAt t i = toksAt t (skipTo (fun x => x != 10) t i) := by
  rw [toksAt_cons h, if_neg (by decide), if_pos (by decide), skipTo_step h (by decide)]

/-- what stands at a place that is no gap: the token and its bytes, or the fault's kind -/
def lexAt (t : Text) (i : Nat) : Except Nat (Tok × Text) := match t[i]? with
  | none => .ok (.over, [])
  | some c => if small c then (if 12 < ((t.drop i).takeWhile inner).length then .error 2 else .ok (.word ((t.drop i).takeWhile inner), (t.drop i).takeWhile inner))
    else if digit c then (if goodNumber ((t.drop i).takeWhile digit) then .ok (.num (valueIn ((t.drop i).takeWhile digit)), (t.drop i).takeWhile digit) else .error 2)
    else if c == 44 || c == 59 then .ok (.sign c, [c]) else .error 1

/-- the tokens at a place that is no gap -/
def toksOf (t : Text) (i : Nat) : Except Nat (Tok × Text) → Toks
  | .error k => [(i, .bad k)]
  | .ok (.over, _) => [(i, .over)]
  | .ok (tok, bs) => (i, tok) :: toksAt t (i + bs.length)

theorem small_inner {c : Nat} (h : small c = true) : inner c = true := by
  unfold inner
  rw [h] <;> rfl
theorem digit_inner {c : Nat} (h : digit c = true) : inner c = true := by
  unfold inner
  rw [h]
  cases small c <;> rfl

theorem toksAt_lex {t : Text} {i : Nat} (hi : i ≤ t.length) (hg : ∀ c, t[i]? = some c → gap c = false) : toksAt t i = toksOf t i (lexAt t i) := by
  cases h : t[i]? with
  | none =>
    have hl : t.length ≤ i := List.getElem?_eq_none_iff.mp h
    have e : i = t.length := by omega
    unfold lexAt
    rw [h, toksAt_end hl, ← e]
    rfl
  | some c =>
    have g := hg c h
    unfold gap at g
    rw [Bool.or_eq_false_iff] at g
    rw [toksAt_cons h, if_neg (by rw [g.1]; decide), if_neg (by rw [g.2]; decide)]
    unfold lexAt
    rw [h]
    dsimp only
    have tw : ∀ p : Nat → Bool, p c = true → (t.drop i).takeWhile p = c :: (t.drop (i + 1)).takeWhile p := fun p hp => by
      rw [drop_cons h, List.takeWhile_cons, if_pos hp]
    have sk : ∀ p : Nat → Bool, p c = true → skipTo p t (i + 1) = i + ((t.drop i).takeWhile p).length := fun p hp => by
      rw [← skipTo_step h hp] <;> rfl
    by_cases hs : small c = true
    · rw [if_pos hs, if_pos hs, ← tw inner (small_inner hs)]
      split
      · rfl
      · rw [sk inner (small_inner hs)] <;> rfl
    · rw [if_neg hs, if_neg hs]
      by_cases hd : digit c = true
      · rw [if_pos hd, if_pos hd, ← tw digit hd]
        split
        · rw [sk digit hd] <;> rfl
        · rfl
      · rw [if_neg hd, if_neg hd]
        split
        · rfl
        · rfl

/-- the first token -/
theorem toksAt_ne (t : Text) : ∀ (n i : Nat), t.length - i ≤ n → toksAt t i ≠ []
  | n, i, hn => by
    by_cases hl : t.length ≤ i
    · rw [toksAt_end hl]
      exact fun h => nomatch h
    · cases n with
      | zero => omega
      | succ n =>
        obtain ⟨c, h⟩ : ∃ c, t[i]? = some c := ⟨_, List.getElem?_eq_getElem (by omega)⟩
        rw [toksAt_cons h]
        have r1 := toksAt_ne t n (i + 1) (by omega)
        have r2 : ∀ p, toksAt t (skipTo p t (i + 1)) ≠ [] := fun p => toksAt_ne t n _ (by have := @le_skipTo p t (i + 1); omega)
        repeat' split
        all_goals first | exact r1 | exact r2 _ | exact fun h => nomatch h
end
section
def mGroup : Text := ascii "group"
def mTest : Text := ascii "test"
def mCost : Text := ascii "cost"
def mChance : Text := ascii "chance"
def mIn : Text := ascii "in"
def mAfter : Text := ascii "after"
/-- a mark of the program: a word, a sign, or what else it is -/
inductive Mk where
  | group | test | cost | chance | in_ | after_ | name | num | comma | semi | over
deriving DecidableEq
def Mk.str : Mk → String
  | .group => "group" | .test => "test" | .cost => "cost" | .chance => "chance" | .in_ => "in" | .after_ => "after"
  | .name => "a name" | .num => "a number" | .comma => "," | .semi => ";" | .over => "the end"
def markW (w : Text) : Mk := if w = mGroup then .group else if w = mTest then .test else if w = mCost then .cost else if w = mChance then .chance else if w = mIn then .in_ else if w = mAfter then .after_ else .name
def markOf : Tok → Mk
  | .word w => markW w
  | .num _ => .num
  | .sign c => if c = 44 then .comma else .semi
  | .over => .over
  | .bad _ => .over
/-- signs are , and ; alone -/
def SgnOk : Toks → Prop
  | (_, .sign c) :: _ => c = 44 ∨ c = 59
  | [] => False
  | _ => True
theorem lex_sign {t : Text} {i c : Nat} {bs : Text} (h : lexAt t i = .ok (.sign c, bs)) : (c = 44 ∨ c = 59) := by
  unfold lexAt at h
  split at h
  · cases h
  · split at h
    · split at h <;> cases h
    · split at h
      · split at h <;> cases h
      · split at h
        · rename_i hc
          cases h
          rw [Bool.or_eq_true] at hc
          rcases hc with hc | hc
          · exact .inl (by simpa using hc)
          · exact .inr (by simpa using hc)
        · cases h
theorem sgn_at (t : Text) : ∀ (n i : Nat), t.length - i ≤ n → SgnOk (toksAt t i)
  | n, i, hn => by
    by_cases hl : t.length ≤ i
    · rw [toksAt_end hl]
      trivial
    · cases n with
      | zero => omega
      | succ n =>
        obtain ⟨c, h⟩ : ∃ c, t[i]? = some c := ⟨_, List.getElem?_eq_getElem (by omega)⟩
        have r1 := sgn_at t n (i + 1) (by omega)
        have r2 : ∀ p, SgnOk (toksAt t (skipTo p t (i + 1))) := fun p => sgn_at t n _ (by have := @le_skipTo p t (i + 1); omega)
        rw [toksAt_cons h]
        repeat' split
        all_goals first
          | exact r1
          | exact r2 _
          | trivial
          | (rename_i hc
             show c = 44 ∨ c = 59
             rw [Bool.or_eq_true] at hc
             rcases hc with hc | hc
             · exact .inl (by simpa using hc)
             · exact .inr (by simpa using hc))
theorem sgnOk (t : Text) (i : Nat) : SgnOk (toksAt t i) := sgn_at t _ i (Nat.le_refl _)

/-- taking a token of a mark -/
def takeM (m : Mk) : Toks → Except Fault ((Nat × Tok) × Toks)
  | (p, .bad k) :: _ => .error (k, p)
  | (p, .over) :: r => if m = .over then .ok ((p, .over), r) else .error (4, p)
  | (p, tok) :: r => if markOf tok = m then .ok ((p, tok), r) else .error (3, p)
  | [] => .error (4, 0)
/-- whether a token of a mark comes (or a fault does) -/
def isM (m : Mk) : Toks → Except Fault Bool
  | (p, .bad k) :: _ => .error (k, p)
  | (_, tok) :: _ => .ok (decide (markOf tok = m))
  | [] => .error (4, 0)

theorem mark_group {w : Text} : markW w = .group ↔ w = ascii "group" := by
  unfold markW
  constructor
  · intro h
    repeat' split at h
    all_goals first | assumption | cases h
  · rintro rfl
    decide
theorem mark_test {w : Text} : markW w = .test ↔ w = ascii "test" := by
  unfold markW
  constructor
  · intro h
    repeat' split at h
    all_goals first | assumption | cases h
  · rintro rfl
    decide
theorem mark_cost {w : Text} : markW w = .cost ↔ w = ascii "cost" := by
  unfold markW
  constructor
  · intro h
    repeat' split at h
    all_goals first | assumption | cases h
  · rintro rfl
    decide
theorem mark_chance {w : Text} : markW w = .chance ↔ w = ascii "chance" := by
  unfold markW
  constructor
  · intro h
    repeat' split at h
    all_goals first | assumption | cases h
  · rintro rfl
    decide
theorem mark_in {w : Text} : markW w = .in_ ↔ w = ascii "in" := by
  unfold markW
  constructor
  · intro h
    repeat' split at h
    all_goals first | assumption | cases h
  · rintro rfl
    decide
theorem mark_after {w : Text} : markW w = .after_ ↔ w = ascii "after" := by
  unfold markW
  constructor
  · intro h
    repeat' split at h
    all_goals first | assumption | cases h
  · rintro rfl
    decide
theorem mark_name {w : Text} : markW w = .name ↔ reserved.contains w = false := by
  have e : reserved = [mGroup, mTest, mCost, mChance, mIn, mAfter] := rfl
  rw [e]
  unfold markW
  simp only [List.contains_cons, List.contains_nil, Bool.or_eq_false_iff, beq_eq_false_iff_ne, ne_eq]
  repeat' split
  all_goals simp_all
theorem mark_not (w : Text) : markW w ≠ .num ∧ markW w ≠ .comma ∧ markW w ≠ .semi ∧ markW w ≠ .over := by
  unfold markW
  repeat' split
  all_goals simp

/-- the word of a mark -/
def Mk.word? : Mk → Option String
  | .group => some "group" | .test => some "test" | .cost => some "cost" | .chance => some "chance" | .in_ => some "in" | .after_ => some "after"
  | _ => none
theorem mark_word {m : Mk} {s : String} (h : m.word? = some s) {w : Text} : markW w = m ↔ w = ascii s := by
  cases m <;> cases h
  · exact mark_group
  · exact mark_test
  · exact mark_cost
  · exact mark_chance
  · exact mark_in
  · exact mark_after
theorem word_no {m : Mk} {s : String} (h : m.word? = some s) : m ≠ .num ∧ m ≠ .comma ∧ m ≠ .semi ∧ m ≠ .over ∧ m ≠ .name := by
  cases m <;> cases h <;> simp

theorem want_word {m : Mk} {s : String} (h : m.word? = some s) {ts : Toks} (hs : SgnOk ts) : wantWord s ts = (takeM m ts).map (·.2) := by
  have n := word_no h
  unfold wantWord isWord
  match ts, hs with
  | (p, .bad k) :: r, _ => rfl
  | (p, .over) :: r, _ =>
    show Except.error (4, p) = Except.map _ (if m = .over then _ else _)
    rw [if_neg n.2.2.2.1] <;> rfl
  | (p, .word w) :: r, _ =>
    show (if (w == ascii s) = true then Except.ok r else .error (3, p)) = Except.map _ (if markW w = m then _ else _)
    by_cases e : w = ascii s
    · rw [if_pos (by simpa using e), if_pos ((mark_word h).mpr e)] <;> rfl
    · rw [if_neg (by simpa using e), if_neg fun z => e ((mark_word h).mp z)] <;> rfl
  | (p, .num k) :: r, _ =>
    show Except.error (3, p) = Except.map _ (if Mk.num = m then _ else _)
    rw [if_neg fun z => n.1 z.symm] <;> rfl
  | (p, .sign c) :: r, _ =>
    show Except.error (3, p) = Except.map _ (if (if c = 44 then Mk.comma else .semi) = m then _ else _)
    rw [if_neg ?_]
    · rfl
    · split
      · exact fun z => n.2.1 z.symm
      · exact fun z => n.2.2.1 z.symm
theorem is_word {m : Mk} {s : String} (h : m.word? = some s) {ts : Toks} {b : Bool} (hs : SgnOk ts) (e : isM m ts = .ok b) : isWord s ts = b := by
  have n := word_no h
  match ts, hs, e with
  | (p, .over) :: r, _, e =>
    cases e
    exact (decide_eq_false fun z => n.2.2.2.1 z.symm).symm
  | (p, .word w) :: r, _, e =>
    cases e
    show (w == ascii s) = decide (markW w = m)
    by_cases q : w = ascii s
    · rw [decide_eq_true ((mark_word h).mpr q)]
      simpa using q
    · rw [decide_eq_false fun z => q ((mark_word h).mp z)]
      simpa using q
  | (p, .num k) :: r, _, e =>
    cases e
    exact (decide_eq_false fun z => n.1 z.symm).symm
  | (p, .sign c) :: r, _, e =>
    cases e
    refine (decide_eq_false ?_).symm
    show ¬ (if c = 44 then Mk.comma else .semi) = m
    split
    · exact fun z => n.2.1 z.symm
    · exact fun z => n.2.2.1 z.symm
theorem want_semi {ts : Toks} (hs : SgnOk ts) : wantSign 59 ts = (takeM .semi ts).map (·.2) := by
  unfold wantSign isSign
  match ts, hs with
  | (p, .bad k) :: r, _ => rfl
  | (p, .over) :: r, _ => rfl
  | (p, .word w) :: r, _ =>
    show Except.error (3, p) = Except.map _ (if markW w = .semi then _ else _)
    rw [if_neg (mark_not w).2.2.1] <;> rfl
  | (p, .num k) :: r, _ => rfl
  | (p, .sign c) :: r, hs =>
    rcases (show c = 44 ∨ c = 59 from hs) with rfl | rfl
    · rfl
    · rfl
theorem is_comma {ts : Toks} {b : Bool} (hs : SgnOk ts) (e : isM .comma ts = .ok b) : isSign 44 ts = b := by
  match ts, hs, e with
  | (p, .over) :: r, _, e =>
    cases e
    rfl
  | (p, .word w) :: r, _, e =>
    cases e
    exact (decide_eq_false (mark_not w).2.1).symm
  | (p, .num k) :: r, _, e =>
    cases e
    rfl
  | (p, .sign c) :: r, hs, e =>
    cases e
    rcases (show c = 44 ∨ c = 59 from hs) with rfl | rfl
    · rfl
    · rfl
theorem is_over {ts : Toks} {b : Bool} (hs : SgnOk ts) (e : isM .over ts = .ok b) : isOver ts = b := by
  match ts, hs, e with
  | (p, .over) :: r, _, e =>
    cases e
    rfl
  | (p, .word w) :: r, _, e =>
    cases e
    exact (decide_eq_false (mark_not w).2.2.2).symm
  | (p, .num k) :: r, _, e =>
    cases e
    rfl
  | (p, .sign c) :: r, hs, e =>
    cases e
    rcases (show c = 44 ∨ c = 59 from hs) with rfl | rfl
    · rfl
    · rfl
/-- a bad token: every look at it faults there -/
theorem bad_of {m m' : Mk} {ts : Toks} {f : Fault} (e : isM m ts = .error f) (hs : SgnOk ts) : ∃ p k r, ts = (p, .bad k) :: r ∧ f = (k, p) := by
  match ts, hs, e with
  | (p, .bad k) :: r, _, e =>
    cases e
    exact ⟨p, k, r, rfl, rfl⟩
theorem take_comma {ts : Toks} (hs : SgnOk ts) (e : isSign 44 ts = true) : ∃ x, takeM .comma ts = .ok (x, ts.drop 1) := by
  match ts, hs, e with
  | (p, .sign c) :: r, hs, e =>
    have q : c = 44 := (by simpa using (show (44 == c) = true from e) : 44 = c).symm
    subst q
    exact ⟨_, rfl⟩
theorem take_word {m : Mk} {s : String} (h : m.word? = some s) {ts : Toks} (hs : SgnOk ts) (e : isWord s ts = true) : ∃ x, takeM m ts = .ok (x, ts.drop 1) ∧ x.1 = here ts := by
  match ts, hs, e with
  | (p, .word w) :: r, hs, e =>
    have q : markW w = m := (mark_word h).mpr (by simpa using (show (w == ascii s) = true from e))
    refine ⟨(p, .word w), ?_, rfl⟩
    show (if markW w = m then _ else _) = _
    rw [if_pos q] <;> rfl

/-- a name -/
theorem read_name {ts : Toks} (hs : SgnOk ts) : readName ts = (takeM .name ts).map fun x => (match x.1 with
    | (p, .word w) => (p, w)
    | (p, _) => (p, []), x.2) := by
  unfold readName
  match ts, hs with
  | (p, .bad k) :: r, _ => rfl
  | (p, .over) :: r, _ => rfl
  | (p, .word w) :: r, _ =>
    show (if reserved.contains w then Except.error (3, p) else .ok ((p, w), r)) = Except.map _ (if markW w = .name then _ else _)
    by_cases e : reserved.contains w = true
    · rw [if_pos e, if_neg fun z => by rw [mark_name.mp z] at e; cases e] <;> rfl
    · rw [if_neg e, if_pos (mark_name.mpr (by simpa using e))] <;> rfl
  | (p, .num k) :: r, _ => rfl
  | (p, .sign c) :: r, _ =>
    show Except.error (3, p) = Except.map _ (if (if c = 44 then Mk.comma else .semi) = .name then _ else _)
    rw [if_neg (by split <;> decide)] <;> rfl
/-- a number in a range -/
theorem read_num {lo hi : Nat} {ts : Toks} (hs : SgnOk ts) : readNum lo hi ts = (takeM .num ts).bind fun x => match x.1 with
    | (p, .num n) => if n < lo ∨ hi < n then .error (8, p) else .ok (n, x.2)
    | (p, _) => .error (3, p) := by
  unfold readNum
  match ts, hs with
  | (p, .bad k) :: r, _ => rfl
  | (p, .over) :: r, _ => rfl
  | (p, .word w) :: r, _ =>
    show Except.error (3, p) = Except.bind (if markW w = .num then _ else _) _
    rw [if_neg (mark_not w).1] <;> rfl
  | (p, .num k) :: r, _ => rfl
  | (p, .sign c) :: r, _ =>
    show Except.error (3, p) = Except.bind (if (if c = 44 then Mk.comma else .semi) = .num then _ else _) _
    rw [if_neg (by split <;> decide)] <;> rfl
/-- what a token of a mark is -/
theorem take_name {ts r : Toks} {x : Nat × Tok} (e : takeM .name ts = .ok (x, r)) (hs : SgnOk ts) : ∃ w, x.2 = .word w ∧ markW w = .name := by
  match ts, hs, e with
  | (p, .over) :: r, _, e => cases e
  | (p, .word w) :: r, _, e =>
    have e' : (if markW w = .name then Except.ok ((p, Tok.word w), r) else .error (3, p)) = .ok (x, _) := e
    split at e'
    · rename_i h
      cases e'
      exact ⟨w, rfl, h⟩
    · cases e'
  | (p, .num k) :: r, _, e => cases e
  | (p, .sign c) :: r, _, e =>
    have e' : (if (if c = 44 then Mk.comma else .semi) = .name then Except.ok ((p, Tok.sign c), r) else .error (3, p)) = .ok (x, _) := e
    rw [if_neg (by split <;> decide)] at e'
    cases e'
theorem take_num {ts r : Toks} {x : Nat × Tok} (e : takeM .num ts = .ok (x, r)) (hs : SgnOk ts) : ∃ n, x.2 = .num n := by
  match ts, hs, e with
  | (p, .over) :: r, _, e => cases e
  | (p, .word w) :: r, _, e =>
    have e' : (if markW w = .num then Except.ok ((p, Tok.word w), r) else .error (3, p)) = .ok (x, _) := e
    rw [if_neg (mark_not w).1] at e'
    cases e'
  | (p, .num k) :: r, _, e =>
    cases e
    exact ⟨k, rfl⟩
  | (p, .sign c) :: r, _, e =>
    have e' : (if (if c = 44 then Mk.comma else .semi) = .num then Except.ok ((p, Tok.sign c), r) else .error (3, p)) = .ok (x, _) := e
    rw [if_neg (by split <;> decide)] at e'
    cases e'
end
section
def rNew (names : List Text) (ts : Toks) : Except Fault (Text × Toks) := (takeM .name ts).bind fun x => match x.1.2 with
  | .word w => if names.contains w = true then .error (6, x.1.1) else .ok (w, x.2)
  | _ => .error (0, 0)
def rRight (lo hi : Nat) (ts : Toks) : Except Fault (Nat × Toks) := (takeM .num ts).bind fun x => match x.1.2 with
  | .num n => if lo ≤ n ∧ n ≤ hi then .ok (n, x.2) else .error (8, x.1.1)
  | _ => .error (0, 0)
def rNum (ts : Toks) : Except Fault (Nat × Toks) := (takeM .num ts).bind fun x => match x.1.2 with
  | .num n => .ok (n, x.2)
  | _ => .error (0, 0)
def idxOf (names : List Text) (w : Text) : Option Nat := names.findIdx? fun n => n == w
def rKnown (names : List Text) (ts : Toks) : Except Fault ((Nat × Nat) × Toks) := (takeM .name ts).bind fun x => match x.1.2 with
  | .word w => match idxOf names w with
    | none => .error (7, x.1.1)
    | some i => .ok ((x.1.1, i), x.2)
  | _ => .error (0, 0)
def gNames (p : Plan) : List Text := p.groups.map fun g => g.name
def jNames (p : Plan) : List Text := p.jobs.map fun g => g.name
def addGroup (p : Plan) (g : Group) : Plan := { p with groups := p.groups ++ [g] }
def addJob (p : Plan) (j : Job) : Plan := { p with jobs := p.jobs ++ [j] }
def rGroup (p : Plan) (ts : Toks) : Except Fault (Plan × Toks) := (takeM .group ts).bind fun x => if p.groups.length = 3 then .error (5, x.1.1) else (rNew (gNames p) x.2).bind fun w => (rNum w.2).bind fun n => (takeM .semi n.2).bind fun s => .ok (addGroup p ⟨w.1, n.1⟩, s.2)
def rLoop (names : List Text) : Nat → List Nat → Toks → Except Fault (List Nat × Toks)
  | 0, _, _ => .error (0, 0)
  | k + 1, l, ts => (rKnown names ts).bind fun x => if l.contains x.1.2 = true then .error (6, x.1.1) else (isM .comma x.2).bind fun b => if b = true then (takeM .comma x.2).bind fun c => rLoop names k (l ++ [x.1.2]) c.2 else .ok (l ++ [x.1.2], x.2)
def rBehind (p : Plan) (ts : Toks) : Except Fault (List Nat × Toks) := (takeM .after_ ts).bind fun x => rLoop (jNames p) (p.jobs.length + 1) [] x.2
def rIn (p : Plan) (ts : Toks) : Except Fault (Option Nat × Toks) := (isM .in_ ts).bind fun b => if b = true then (takeM .in_ ts).bind fun x => (rKnown (gNames p) x.2).bind fun g => .ok (some g.1.2, g.2) else .ok (none, ts)
def rAfter (p : Plan) (ts : Toks) : Except Fault (List Nat × Toks) := (isM .after_ ts).bind fun b => if b = true then rBehind p ts else .ok ([], ts)
def rTest (p : Plan) (ts : Toks) : Except Fault (Plan × Toks) := (takeM .test ts).bind fun x => if p.jobs.length = 7 then .error (5, x.1.1) else (rNew (jNames p) x.2).bind fun w => (takeM .cost w.2).bind fun a => (rRight 1 1000 a.2).bind fun c => (takeM .chance c.2).bind fun b => (rRight 0 100 b.2).bind fun h =>
  (rIn p h.2).bind fun g => (rAfter p g.2).bind fun f => (takeM .semi f.2).bind fun s => .ok (addJob p ⟨w.1, c.1, h.1, g.1, f.1⟩, s.2)
def rItems : Nat → Plan → Toks → Except Fault Plan
  | 0, _, _ => .error (0, 0)
  | k + 1, p, ts => (isM .over ts).bind fun b => if b = true then .ok p else (isM .group ts).bind fun g => if g = true then (rGroup p ts).bind fun z => rItems k z.1 z.2 else (rTest p ts).bind fun z => rItems k z.1 z.2
def rPlan (t : Text) : Except Fault Plan := rItems 11 emptyPlan (toksAt t 0)
/-! ### indices of a name -/
def idxs (names : List Text) (w : Text) (k : Nat) : List Nat := (List.range k).filter fun j => decide (names[j]? = some w)
theorem idxs_yes {names : List Text} {w : Text} {k : Nat} (h : names[k]? = some w) : idxs names w (k + 1) = idxs names w k ++ [k] := by
  unfold idxs
  rw [List.range_succ, List.filter_append, List.filter_cons_of_pos (by simpa using h)] <;> rfl
theorem idxs_no {names : List Text} {w v : Text} {k : Nat} (h : names[k]? = some v) (hv : v ≠ w) : idxs names w (k + 1) = idxs names w k := by
  unfold idxs
  rw [List.range_succ, List.filter_append, List.filter_cons_of_neg (by rw [h]; simpa using hv)]
  simp
theorem idxOf_none {names : List Text} {w : Text} (h : idxs names w names.length = []) : idxOf names w = none := by
  unfold idxOf
  rw [List.findIdx?_eq_none_iff]
  intro x hx
  obtain ⟨j, hj⟩ := List.mem_iff_getElem?.mp hx
  have hl := (List.getElem?_eq_some_iff.mp hj).1
  unfold idxs at h
  rw [List.filter_eq_nil_iff] at h
  have := h j (List.mem_range.mpr hl)
  rw [hj] at this
  simpa using this
theorem idxOf_some {names : List Text} {w : Text} {i : Nat} {r : List Nat} (h : idxs names w names.length = i :: r) : idxOf names w = some i := by
  unfold idxOf
  have hi : i ∈ idxs names w names.length := by
    rw [h]
    exact List.mem_cons_self ..
  unfold idxs at hi
  obtain ⟨h1, h2⟩ := List.mem_filter.mp hi
  have hl := List.mem_range.mp h1
  have hw : names[i]? = some w := by simpa using h2
  rw [List.findIdx?_eq_some_iff_getElem]
  refine ⟨hl, ?_, fun j hj => ?_⟩
  · have := (List.getElem?_eq_some_iff.mp hw).2
    simpa using this
  · intro z
    have hjl : j < names.length := by omega
    have hjm : j ∈ idxs names w names.length := by
      unfold idxs
      refine List.mem_filter.mpr ⟨List.mem_range.mpr hjl, ?_⟩
      rw [List.getElem?_eq_getElem hjl]
      simpa using z
    rw [h] at hjm
    have hs : (i :: r).Pairwise (· < ·) := by
      rw [← h]
      unfold idxs
      exact List.Pairwise.filter _ List.pairwise_lt_range
    rcases List.mem_cons.mp hjm with rfl | hm
    · omega
    · have := List.rel_of_pairwise_cons hs hm
      omega
end
section
theorem foldl_sum : ∀ (l : List Nat) (a : Nat), l.foldl (fun a b => a + b) a = a + l.sum
  | [], a => by simp
  | x :: l, a => by
    rw [List.foldl_cons, foldl_sum l (a + x), List.sum_cons]
    omega
theorem sum_cast : ∀ l : List Nat, (l.map fun n : Nat => (n : Int)).sum = ((l.sum : Nat) : Int)
  | [] => rfl
  | x :: l => by
    rw [List.map_cons, List.sum_cons, List.sum_cons, sum_cast l]
    omega
def gInt : Option Nat → Int
  | none => -1
  | some g => g
theorem gInt_inj {a b : Option Nat} (h : gInt a = gInt b) : a = b := by
  cases a with
  | none => cases b with
    | none => rfl
    | some b =>
      unfold gInt at h
      dsimp only at h
      omega
  | some a => cases b with
    | none =>
      unfold gInt at h
      dsimp only at h
      omega
    | some b =>
      have h : (a : Int) = (b : Int) := h
      rw [Int.ofNat.inj h]
def addK (ks : List Int) (k : Int) : List Int := if ks.contains k = true then ks else ks ++ [k]
def kset (p : Plan) (l : List Nat) : List Int := l.foldl (fun ks i => addK ks (gInt (jobAt p i).group)) []
def setupI (p : Plan) (k : Int) : Nat := if k = -1 then 0 else (p.groups[k.toNat]?).elim 0 fun g => g.setup
theorem kset_snoc (p : Plan) (l : List Nat) (i : Nat) : kset p (l ++ [i]) = addK (kset p l) (gInt (jobAt p i).group) := by
  unfold kset
  rw [List.foldl_append] <;> rfl
theorem mem_addK {ks : List Int} {k x : Int} : x ∈ addK ks k ↔ x ∈ ks ∨ x = k := by
  unfold addK
  split
  · rename_i h
    have h := List.contains_iff_mem.mp h
    exact ⟨.inl, fun z => z.elim id fun e => e ▸ h⟩
  · rw [List.mem_append, List.mem_singleton]
/-- a statement for lists from the right -/
theorem snoc_ind {α : Type} {P : List α → Prop} (h0 : P []) (h1 : ∀ l x, P l → P (l ++ [x])) : ∀ l, P l := by
  intro l
  have h : ∀ n (l : List α), l.length = n → P l := by
    intro n
    induction n with
    | zero =>
      intro l hl
      rw [List.length_eq_zero_iff.mp hl]
      exact h0
    | succ n ih =>
      intro l hl
      have hne : l ≠ [] := fun z => by
        rw [z] at hl
        cases hl
      rw [← List.dropLast_concat_getLast hne]
      exact h1 _ _ (ih _ (by rw [List.length_dropLast]; omega))
  exact h _ l rfl
theorem mem_kset (p : Plan) (k : Int) : ∀ l, k ∈ kset p l ↔ ∃ i ∈ l, gInt (jobAt p i).group = k := by
  refine snoc_ind ?_ ?_
  · constructor
    · intro h
      cases h
    · rintro ⟨_, h, _⟩
      cases h
  · intro l x ih
    rw [kset_snoc, mem_addK, ih]
    constructor
    · rintro (⟨i, h1, h2⟩ | rfl)
      · exact ⟨i, List.mem_append.mpr (.inl h1), h2⟩
      · exact ⟨x, by simp, rfl⟩
    · rintro ⟨i, h1, h2⟩
      rcases List.mem_append.mp h1 with h1 | h1
      · exact .inl ⟨i, h1, h2⟩
      · rw [List.mem_singleton] at h1
        rw [h1] at h2
        exact .inr h2.symm
def zs (P : Nat → Bool) (gs : List (Group × Nat)) : Nat := ((gs.filter fun g => P g.2).map fun g => g.1.setup).sum
theorem zs_cons (P : Nat → Bool) (g : Group × Nat) (gs : List (Group × Nat)) : zs P (g :: gs) = (if P g.2 = true then g.1.setup else 0) + zs P gs := by
  unfold zs
  rw [List.filter_cons]
  split <;> simp
theorem zs_more (P Q : Nat → Bool) (g : Nat) (hQ : ∀ j, Q j = (P j || j == g)) (hP : P g = false) : ∀ (gs : List Group) (off : Nat), zs Q (gs.zipIdx off) = zs P (gs.zipIdx off) + if off ≤ g then (gs[g - off]?).elim 0 (fun g => g.setup) else 0
  | [], off => by
    unfold zs
    simp
  | x :: gs, off => by
    rw [List.zipIdx_cons, zs_cons, zs_cons, zs_more P Q g hQ hP gs (off + 1), hQ]
    dsimp only
    by_cases h : off = g
    · subst h
      rw [hP, if_neg (show ¬ off + 1 ≤ off by omega), if_pos (Nat.le_refl off), Nat.sub_self]
      simp
      omega
    · have e : (off == g) = false := beq_eq_false_iff_ne.mpr h
      rw [e, Bool.or_false]
      by_cases h2 : off ≤ g
      · rw [if_pos h2, if_pos (show off + 1 ≤ g by omega), show g - off = (g - (off + 1)) + 1 by omega, List.getElem?_cons_succ]
        omega
      · rw [if_neg h2, if_neg (show ¬ off + 1 ≤ g by omega)]
        omega
theorem zs_same (P Q : Nat → Bool) (hQ : ∀ j, Q j = P j) (gs : List (Group × Nat)) : zs Q gs = zs P gs := by
  have e : Q = P := funext hQ
  rw [e]
def inG (p : Plan) (l : List Nat) (g : Nat) : Bool := l.any fun i => (jobAt p i).group == some g
theorem kset_sum (p : Plan) : ∀ l, ((kset p l).map (setupI p)).sum = zs (inG p l) p.groups.zipIdx := by
  refine snoc_ind ?_ ?_
  · have e : p.groups.zipIdx.filter (fun g => inG p [] g.2) = [] := by
      rw [List.filter_eq_nil_iff]
      intro a _ h
      cases h
    unfold zs
    rw [e] <;> rfl
  · intro l x ih
    rw [kset_snoc]
    unfold addK
    have hin : ∀ g, inG p (l ++ [x]) g = (inG p l g || (jobAt p x).group == some g) := fun g => by
      unfold inG
      rw [List.any_append]
      simp
    cases hg : (jobAt p x).group with
    | none =>
      have e0 : zs (inG p (l ++ [x])) p.groups.zipIdx = zs (inG p l) p.groups.zipIdx := zs_same _ _ (fun j => by rw [hin, hg]; simp) _
      rw [e0, ← ih]
      split
      · rfl
      · rw [List.map_append, List.sum_append]
        simp [setupI, gInt]
    | some g =>
      split
      · rename_i h
        obtain ⟨i, h1, h2⟩ := (mem_kset p _ l).mp (List.contains_iff_mem.mp h)
        have h2 := gInt_inj h2
        rw [ih]
        refine (zs_same _ _ (fun j => ?_) _).symm
        rw [hin, hg]
        by_cases hj : j = g
        · subst hj
          have : inG p l j = true := by
            unfold inG
            rw [List.any_eq_true]
            exact ⟨i, h1, by rw [h2]; simp⟩
          rw [this] <;> rfl
        · have : (some g == some j) = false := beq_eq_false_iff_ne.mpr fun z => hj (Option.some.inj z).symm
          rw [this, Bool.or_false]
      · rename_i h
        have hP : inG p l g = false := by
          cases e : inG p l g with
          | false => rfl
          | true =>
            unfold inG at e
            rw [List.any_eq_true] at e
            obtain ⟨i, h1, h2⟩ := e
            exfalso
            apply h
            rw [List.contains_iff_mem, mem_kset]
            exact ⟨i, h1, by rw [eq_of_beq h2]⟩
        rw [List.map_append, List.sum_append, ih, zs_more (inG p l) (inG p (l ++ [x])) g (fun j => ?_) hP]
        · rw [if_pos (Nat.zero_le _), Nat.sub_zero]
          unfold setupI gInt
          simp
        · rw [hin, hg]
          congr 1
          rw [Bool.eq_iff_iff]
          simp
          exact eq_comm
theorem cost_sum (p : Plan) (l : List Nat) : costOf p l = (l.map fun i => (jobAt p i).cost).sum + ((kset p l).map (setupI p)).sum := by
  rw [kset_sum]
  unfold costOf zs inG
  rw [foldl_sum, foldl_sum, Nat.zero_add, Nat.zero_add]
/-- the misses so far -/
def missUp (p : Plan) (l : List Nat) (k : Nat) : Nat := ((List.range k).map fun i => if l.contains i then 100 - (jobAt p i).chance else 100).foldl (fun a b => a * b) 1
theorem missUp_succ (p : Plan) (l : List Nat) (k : Nat) : missUp p l (k + 1) = missUp p l k * (if l.contains k then 100 - (jobAt p k).chance else 100) := by
  unfold missUp
  rw [List.range_succ, List.map_append, List.foldl_append] <;> rfl
theorem missUp_all (p : Plan) (l : List Nat) : missUp p l p.jobs.length = missOf p l := rfl
end
section
theorem digit_nat {d : Nat} (h : d < 10) : (Nat.digitChar d).toNat = 48 + d := by
  rcases d with _ | _ | _ | _ | _ | _ | _ | _ | _ | _ | d
  all_goals first | rfl | omega
def dec0 (m : Nat) : Text := if m = 0 then [] else decimal m
theorem decimal_step (m : Nat) : decimal m = dec0 (m / 10) ++ [48 + m % 10] := by
  unfold dec0 decimal
  by_cases h : m < 10
  · rw [Nat.toDigits_of_lt_base h, Nat.div_eq_of_lt h, if_pos rfl, Nat.mod_eq_of_lt h]
    simp [digit_nat h]
  · have h2 : m / 10 ≠ 0 := by omega
    rw [if_neg h2, Nat.toDigits_of_base_le (by decide) (by omega), List.map_append]
    simp [digit_nat (Nat.mod_lt m (by decide : 0 < 10))]
theorem decimal_len {n : Nat} (h : n < 10000) : (decimal n).length ≤ 4 := by
  unfold decimal
  rw [List.length_map]
  exact (Nat.length_toDigits_le_iff (by decide) (by decide)).mpr (by simpa using h)
def joinW (b : Text) : List Text → Text
  | [] => []
  | a :: r => a ++ r.flatMap fun t => b ++ t
theorem joinW_snoc (b : Text) (l : List Text) (x : Text) : joinW b (l ++ [x]) = joinW b l ++ ((if l = [] then [] else b) ++ x) := by
  cases l with
  | nil => simp [joinW]
  | cons a r =>
    rw [List.cons_append]
    show a ++ (r ++ [x]).flatMap (fun t => b ++ t) = a ++ r.flatMap (fun t => b ++ t) ++ ((if a :: r = [] then [] else b) ++ x)
    rw [List.flatMap_append, if_neg (by simp)]
    simp [List.append_assoc]
theorem joinW_le (b : Text) : ∀ m l : List Text, (joinW b l).length ≤ (joinW b (l ++ m)).length := by
  refine snoc_ind (fun l => by rw [List.append_nil]; exact Nat.le_refl _) fun m x ih l => ?_
  rw [← List.append_assoc, joinW_snoc, List.length_append]
  exact Nat.le_trans (ih l) (Nat.le_add_right _ _)
theorem joinW_bound (b : Text) (n : Nat) (hb : b.length ≤ n) : ∀ l : List Text, (∀ t ∈ l, t.length ≤ n) → (joinW b l).length ≤ 2 * n * l.length := by
  refine snoc_ind (fun _ => by simp [joinW]) fun l x ih h => ?_
  have h1 := ih fun t ht => h t (List.mem_append.mpr (.inl ht))
  have h2 := h x (by simp)
  rw [joinW_snoc, List.length_append, List.length_append, List.length_append, List.length_singleton, Nat.mul_add]
  have h3 : (if l = [] then [] else b).length ≤ n := by
    split
    · exact Nat.zero_le _
    · exact hb
  omega
def gPart (p : Plan) (j : Job) : List Text := match j.group with
  | none => []
  | some g => [ascii "in", ((p.groups[g]?).map fun x => x.name).getD []]
def aPart (p : Plan) (j : Job) : List Text := if j.after_ = [] then [] else [ascii "after", joinW (ascii ", ") (j.after_.map fun i => (jobAt p i).name)]
def partsP (p : Plan) (j : Job) : List Text := ([ascii "test", j.name, ascii "cost", decimal j.cost, ascii "chance"] ++ [decimal j.chance]) ++ gPart p j ++ aPart p j
theorem gPart_none {p : Plan} {j : Job} (h : j.group = none) : gPart p j = [] := by
  unfold gPart
  rw [h]
theorem gPart_some {p : Plan} {j : Job} {g : Nat} {y : Group} (h : j.group = some g) (hy : p.groups[g]? = some y) : gPart p j = [ascii "in", y.name] := by
  unfold gPart
  rw [h]
  dsimp only
  rw [hy] <;> rfl
def lineP (p : Plan) (j : Job) : Text := joinW (ascii " ") (partsP p j)
def lineG (g : Group) : Text := joinW (ascii " ") [ascii "group", g.name, decimal g.setup]
def linesP (p : Plan) : List Text := p.groups.map lineG ++ p.jobs.map (lineP p)
def textP (p : Plan) : Text := (linesP p).flatMap fun l => l ++ ascii ";" ++ [10]
theorem comma_join (l : List Text) : comma l = joinW (ascii ", ") l := by cases l <;> rfl
theorem line_job (p : Plan) (j : Job) : lineP p j ++ ascii ";" ++ [10] = jobText p j := by
  unfold lineP jobText partsP gPart aPart
  rw [comma_join]
  have e1 : ascii "test " = ascii "test" ++ ascii " " := by decide
  have e2 : ascii " cost " = ascii " " ++ ascii "cost" ++ ascii " " := by decide
  have e3 : ascii " chance " = ascii " " ++ ascii "chance" ++ ascii " " := by decide
  have e4 : ascii " in " = ascii " " ++ ascii "in" ++ ascii " " := by decide
  have e5 : ascii " after " = ascii " " ++ ascii "after" ++ ascii " " := by decide
  have e6 : ascii ";\n" = ascii ";" ++ [10] := by decide
  rw [e1, e2, e3, e4, e5, e6]
  cases hg : j.group with
  | none =>
    cases ha : j.after_ with
    | nil => simp [joinW, List.append_assoc]
    | cons a r => simp [joinW, List.append_assoc]
  | some g =>
    cases ha : j.after_ with
    | nil => simp [joinW, List.append_assoc]
    | cons a r => simp [joinW, List.append_assoc]
theorem line_group (g : Group) : lineG g ++ ascii ";" ++ [10] = ascii "group " ++ (g.name ++ (32 :: (decimal g.setup ++ ascii ";\n"))) := by
  unfold lineG
  have e1 : ascii "group " = ascii "group" ++ ascii " " := by decide
  have e6 : ascii ";\n" = ascii ";" ++ [10] := by decide
  have e7 : ascii " " = [32] := by decide
  rw [e1, e6, e7]
  simp [joinW, List.append_assoc]
theorem textP_eq (p : Plan) : textP p = writePlan p := by
  unfold textP linesP writePlan
  rw [List.flatMap_append, List.flatMap_map, List.flatMap_map]
  have e1 : (fun a : Group => lineG a ++ ascii ";" ++ [10]) = fun g => ascii "group " ++ (g.name ++ (32 :: (decimal g.setup ++ ascii ";\n"))) := funext line_group
  have e2 : (fun a : Job => lineP p a ++ ascii ";" ++ [10]) = jobText p := funext (line_job p)
  rw [e1, e2]
end
section
/-- a text's tokens -/
inductive WF : Toks → Prop
  | over (p : Nat) : WF [(p, .over)]
  | bad (p k : Nat) : WF [(p, .bad k)]
  | word (p : Nat) (w : Text) (r : Toks) (h : w.length ≤ 12) : WF r → WF ((p, .word w) :: r)
  | num (p n : Nat) (r : Toks) (h : n ≤ 1000) : WF r → WF ((p, .num n) :: r)
  | sign (p c : Nat) (r : Toks) (h : c = 44 ∨ c = 59) : WF r → WF ((p, .sign c) :: r)
theorem wf_at (t : Text) : ∀ (n i : Nat), t.length - i ≤ n → WF (toksAt t i)
  | n, i, hn => by
    by_cases hl : t.length ≤ i
    · rw [toksAt_end hl]
      exact .over _
    · cases n with
      | zero => omega
      | succ n =>
        obtain ⟨c, h⟩ : ∃ c, t[i]? = some c := ⟨_, List.getElem?_eq_getElem (by omega)⟩
        have r1 := wf_at t n (i + 1) (by omega)
        have r2 : ∀ p, WF (toksAt t (skipTo p t (i + 1))) := fun p => wf_at t n _ (by have := @le_skipTo p t (i + 1); omega)
        rw [toksAt_cons h]
        repeat' split
        all_goals first
          | exact r1
          | exact r2 _
          | exact .bad _ _
          | exact .word _ _ _ (by omega) (r2 _)
          | (rename_i hg
             refine .num _ _ _ ?_ (r2 _)
             unfold goodNumber COST at hg
             simp only [Bool.and_eq_true, decide_eq_true_eq] at hg
             exact hg.2)
          | (rename_i hc
             refine .sign _ _ _ ?_ r1
             rw [Bool.or_eq_true] at hc
             rcases hc with hc | hc
             · exact .inl (by simpa using hc)
             · exact .inr (by simpa using hc))
theorem wf_sgn {ts : Toks} (h : WF ts) : SgnOk ts := by
  cases h <;> first | trivial | assumption
theorem wf_take {m : Mk} {ts r : Toks} {x : Nat × Tok} (hm : m ≠ .over) (h : WF ts) (e : takeM m ts = .ok (x, r)) : WF r := by
  cases h with
  | over p =>
    have e' : (if m = .over then Except.ok ((p, Tok.over), []) else .error (4, p)) = .ok (x, r) := e
    rw [if_neg hm] at e'
    cases e'
  | bad p k => cases e
  | word p w r' h hr =>
    have e' : (if markW w = m then Except.ok ((p, Tok.word w), r') else .error (3, p)) = .ok (x, r) := e
    split at e'
    · cases e'
      exact hr
    · cases e'
  | num p n r' h hr =>
    have e' : (if Mk.num = m then Except.ok ((p, Tok.num n), r') else .error (3, p)) = .ok (x, r) := e
    split at e'
    · cases e'
      exact hr
    · cases e'
  | sign p c r' h hr =>
    have e' : (if (if c = 44 then Mk.comma else .semi) = m then Except.ok ((p, Tok.sign c), r') else .error (3, p)) = .ok (x, r) := e
    generalize (if c = 44 then Mk.comma else Mk.semi) = mk at e'
    split at e'
    · cases e'
      exact hr
    · cases e'
theorem wf_len {m : Mk} {ts r : Toks} {x : Nat × Tok} (hm : m ≠ .over) (h : WF ts) (e : takeM m ts = .ok (x, r)) : r.length + 1 = ts.length := by
  cases h with
  | over p =>
    have e' : (if m = .over then Except.ok ((p, Tok.over), []) else .error (4, p)) = .ok (x, r) := e
    rw [if_neg hm] at e'
    cases e'
  | bad p k => cases e
  | word p w r' h hr =>
    have e' : (if markW w = m then Except.ok ((p, Tok.word w), r') else .error (3, p)) = .ok (x, r) := e
    split at e'
    · cases e'
      rfl
    · cases e'
  | num p n r' h hr =>
    have e' : (if Mk.num = m then Except.ok ((p, Tok.num n), r') else .error (3, p)) = .ok (x, r) := e
    split at e'
    · cases e'
      rfl
    · cases e'
  | sign p c r' h hr =>
    have e' : (if (if c = 44 then Mk.comma else .semi) = m then Except.ok ((p, Tok.sign c), r') else .error (3, p)) = .ok (x, r) := e
    generalize (if c = 44 then Mk.comma else Mk.semi) = mk at e'
    split at e'
    · cases e'
      rfl
    · cases e'
theorem take_name12 {ts r : Toks} {p : Nat} {w : Text} (h : WF ts) (e : takeM .name ts = .ok ((p, .word w), r)) : w.length ≤ 12 := by
  cases h with
  | over p => cases e
  | bad p k => cases e
  | word p w' r' h hr =>
    have e' : (if markW w' = .name then Except.ok ((p, Tok.word w'), r') else .error (3, p)) = .ok (_, r) := e
    split at e'
    · cases e'
      exact h
    · cases e'
  | num p n r' h hr => cases e
  | sign p c r' h hr =>
    have e' : (if (if c = 44 then Mk.comma else .semi) = .name then Except.ok ((p, Tok.sign c), r') else .error (3, p)) = .ok (_, r) := e
    split at e'
    · cases e'
    · cases e'
theorem take_num1000 {ts r : Toks} {p n : Nat} (h : WF ts) (e : takeM .num ts = .ok ((p, .num n), r)) : n ≤ 1000 := by
  cases h with
  | over p => cases e
  | bad p k => cases e
  | word p w' r' h hr =>
    have e' : (if markW w' = .num then Except.ok ((p, Tok.word w'), r') else .error (3, p)) = .ok (_, r) := e
    split at e'
    · cases e'
    · cases e'
  | num p n' r' h hr =>
    cases e
    exact h
  | sign p c r' h hr =>
    have e' : (if (if c = 44 then Mk.comma else .semi) = .num then Except.ok ((p, Tok.sign c), r') else .error (3, p)) = .ok (_, r) := e
    split at e'
    · cases e'
    · cases e'
theorem names_group (p : Plan) (w : Text) : (gNames p).contains w = (groupNamed p w).isSome := by
  unfold gNames groupNamed
  rw [List.findIdx?_isSome, List.contains_eq_any_beq, List.any_map]
  congr 1
  funext x
  exact Bool.beq_comm ..
theorem names_job (p : Plan) (w : Text) : (jNames p).contains w = (jobNamed p w).isSome := by
  unfold jNames jobNamed
  rw [List.findIdx?_isSome, List.contains_eq_any_beq, List.any_map]
  congr 1
  funext x
  exact Bool.beq_comm ..
theorem idx_group (p : Plan) (w : Text) : idxOf (gNames p) w = groupNamed p w := by
  unfold gNames groupNamed idxOf
  rw [List.findIdx?_map] <;> rfl
theorem idx_job (p : Plan) (w : Text) : idxOf (jNames p) w = jobNamed p w := by
  unfold jNames jobNamed idxOf
  rw [List.findIdx?_map] <;> rfl
theorem read_group_eq {p : Plan} {ts : Toks} (hw : WF ts) (h3 : p.groups.length ≤ 3) (e : isWord "group" ts = true) : rGroup p ts = readGroup p ts := by
  obtain ⟨x, h1, h2⟩ := take_word (m := .group) rfl (wf_sgn hw) e
  have hw2 := wf_take (by decide) hw h1
  unfold rGroup readGroup
  rw [h1]
  dsimp only [Except.bind]
  by_cases h3 : p.groups.length = 3
  · rw [if_pos h3, if_pos (show GROUPS ≤ p.groups.length by show 3 ≤ _; omega), h2]
  · rw [if_neg h3, if_neg (show ¬ GROUPS ≤ p.groups.length by show ¬ 3 ≤ _; omega), read_name (wf_sgn hw2)]
    unfold rNew
    cases h4 : takeM .name (ts.drop 1) with
    | error f => rfl
    | ok y =>
      obtain ⟨⟨q, tok⟩, r⟩ := y
      obtain ⟨w, hw4, _⟩ := take_name h4 (wf_sgn hw2)
      have hw3 := wf_take (by decide) hw2 h4
      have hw4 : tok = .word w := hw4
      subst hw4
      dsimp only [Except.bind, Except.map]
      rw [names_group]
      cases hg : (groupNamed p w).isSome with
      | true => rfl
      | false =>
        simp only [Bool.false_eq_true, if_false]
        rw [read_num (wf_sgn hw3)]
        unfold rNum
        cases h5 : takeM .num r with
        | error f => rfl
        | ok y =>
          obtain ⟨⟨q2, tok⟩, r2⟩ := y
          obtain ⟨n, hn5⟩ := take_num h5 (wf_sgn hw3)
          have hn5 : tok = .num n := hn5
          subst hn5
          have hw4 := wf_take (by decide) hw3 h5
          have hn := take_num1000 hw3 h5
          dsimp only [Except.bind]
          rw [if_neg (show ¬ (n < 0 ∨ COST < n) by show ¬ (n < 0 ∨ 1000 < n); omega)]
          dsimp only
          rw [want_semi (wf_sgn hw4)]
          cases h6 : takeM .semi r2 with
          | error f => rfl
          | ok y => rfl
theorem nodup_le : ∀ (n : Nat) (l : List Nat), l.Nodup → (∀ x ∈ l, x < n) → l.length ≤ n
  | 0, [], _, _ => Nat.le_refl _
  | 0, x :: l, _, h => absurd (h x (List.mem_cons_self ..)) (Nat.not_lt_zero _)
  | n + 1, l, hd, h => by
    have h1 := nodup_le n (l.filter fun x => decide (x ≠ n)) (hd.filter _) (fun x hx => by
      obtain ⟨h1, h2⟩ := List.mem_filter.mp hx
      have := h x h1
      have h2 := of_decide_eq_true h2
      omega)
    have h2 : l.length ≤ (l.filter fun x => decide (x ≠ n)).length + 1 := by
      clear h1 h
      induction l with
      | nil => exact Nat.zero_le _
      | cons a l ih =>
        obtain ⟨ha, hd⟩ := List.nodup_cons.mp hd
        by_cases e : a = n
        · subst e
          have : l.filter (fun x => decide (x ≠ a)) = l := List.filter_eq_self.mpr fun x hx => decide_eq_true fun z => ha (z ▸ hx)
          rw [List.filter_cons_of_neg (by simp), this]
          simp
        · rw [List.filter_cons_of_pos (by simpa using e), List.length_cons, List.length_cons]
          have := ih hd
          omega
    omega
/-- what goes on behind faults at a bad token -/
def Fts {A B : Type} (F : A × Toks → Except Fault B) : Prop := ∀ a p k r, F (a, (p, .bad k) :: r) = .error (k, p)
theorem loop_eq {B : Type} (F : List Nat × Toks → Except Fault B) (hF : Fts F) (p : Plan) : ∀ (n k : Nat) (l : List Nat) (ts : Toks), WF ts → l.Nodup → (∀ x ∈ l, x < p.jobs.length) → p.jobs.length + 1 ≤ n + l.length → ts.length ≤ k → (rLoop (jNames p) n l ts).bind F = (readAfter p k l ts).bind F
  | 0, k, l, ts, hw, hd, hb, hn, hk => by
    have := nodup_le _ l hd hb
    omega
  | n + 1, 0, l, ts, hw, hd, hb, hn, hk => by
    cases hw <;> simp at hk
  | n + 1, k + 1, l, ts, hw, hd, hb, hn, hk => by
    unfold rLoop readAfter
    rw [read_name (wf_sgn hw)]
    unfold rKnown
    cases h4 : takeM .name ts with
    | error f => rfl
    | ok y =>
      obtain ⟨⟨q, tok⟩, r⟩ := y
      obtain ⟨w, hw4, _⟩ := take_name h4 (wf_sgn hw)
      have hw3 := wf_take (by decide) hw h4
      have hl3 := wf_len (by decide) hw h4
      have hw4 : tok = .word w := hw4
      subst hw4
      dsimp only [Except.bind, Except.map]
      rw [idx_job]
      cases hg : jobNamed p w with
      | none => rfl
      | some i =>
        have hil : i < p.jobs.length := by
          unfold jobNamed at hg
          exact (List.findIdx?_eq_some_iff_getElem.mp hg).1
        dsimp only
        cases hc : l.contains i with
        | true => rfl
        | false =>
          have hni : i ∉ l := fun z => by
            rw [List.contains_iff_mem.mpr z] at hc
            cases hc
          simp only [Bool.false_eq_true, if_false]
          cases h5 : isM .comma r with
          | error f =>
            obtain ⟨p', k', r', rfl, rfl⟩ := bad_of (m' := .over) h5 (wf_sgn hw3)
            exact (hF (l ++ [i]) p' k' r').symm
          | ok b =>
            rw [is_comma (wf_sgn hw3) h5]
            cases b with
            | false => rfl
            | true =>
              obtain ⟨x, hx⟩ := take_comma (wf_sgn hw3) (is_comma (wf_sgn hw3) h5)
              have hw5 := wf_take (by decide) hw3 hx
              have hl5 := wf_len (by decide) hw3 hx
              simp only [if_true]
              rw [hx]
              dsimp only
              refine loop_eq F hF p n k _ _ hw5 ?_ ?_ ?_ (by omega)
              · refine List.nodup_append.mpr ⟨hd, by simp, ?_⟩
                intro a ha b hb'
                rw [List.mem_singleton] at hb'
                subst hb'
                exact fun z => hni (z ▸ ha)
              · intro x hx
                rcases List.mem_append.mp hx with hx | hx
                · exact hb x hx
                · rw [List.mem_singleton] at hx
                  omega
              · rw [List.length_append, List.length_singleton]
                omega
theorem behind_eq {B : Type} (F : List Nat × Toks → Except Fault B) (hF : Fts F) {p : Plan} {ts : Toks} (hw : WF ts) : (rAfter p ts).bind F = (if isWord "after" ts then readAfter p ts.length [] (ts.drop 1) else .ok ([], ts)).bind F := by
  unfold rAfter
  cases h5 : isM .after_ ts with
  | error f =>
    obtain ⟨p', k', r', rfl, rfl⟩ := bad_of (m' := .over) h5 (wf_sgn hw)
    exact (hF [] p' k' r').symm
  | ok b =>
    have e := is_word (m := .after_) rfl (wf_sgn hw) h5
    rw [show isWord "after" ts = b from e]
    cases b with
    | false => rfl
    | true =>
      obtain ⟨x, h1, h2⟩ := take_word (m := .after_) rfl (wf_sgn hw) e
      have hw2 := wf_take (by decide) hw h1
      have hl2 := wf_len (by decide) hw h1
      simp only [if_true]
      dsimp only [Except.bind]
      unfold rBehind
      rw [h1]
      exact loop_eq F hF p _ _ [] _ hw2 List.nodup_nil (fun x hx => by cases hx) (by simp) (by dsimp only; omega)
theorem in_eq {B : Type} (F : Option Nat × Toks → Except Fault B) (hF : Fts F) {p : Plan} {ts : Toks} (hw : WF ts) : (rIn p ts).bind F = (if isWord "in" ts then (readName (ts.drop 1)).bind fun g => match groupNamed p g.1.2 with
    | none => .error (7, g.1.1)
    | some k => .ok (some k, g.2) else .ok (none, ts)).bind F := by
  unfold rIn
  cases h5 : isM .in_ ts with
  | error f =>
    obtain ⟨p', k', r', rfl, rfl⟩ := bad_of (m' := .over) h5 (wf_sgn hw)
    exact (hF none p' k' r').symm
  | ok b =>
    have e := is_word (m := .in_) rfl (wf_sgn hw) h5
    rw [show isWord "in" ts = b from e]
    cases b with
    | false => rfl
    | true =>
      obtain ⟨x, h1, h2⟩ := take_word (m := .in_) rfl (wf_sgn hw) e
      have hw2 := wf_take (by decide) hw h1
      simp only [if_true]
      dsimp only [Except.bind]
      rw [h1]
      dsimp only
      unfold rKnown
      rw [read_name (wf_sgn hw2)]
      cases h4 : takeM .name (ts.drop 1) with
      | error f => rfl
      | ok y =>
        obtain ⟨⟨q, tok⟩, r⟩ := y
        obtain ⟨w, hw4, _⟩ := take_name h4 (wf_sgn hw2)
        have hw4 : tok = .word w := hw4
        subst hw4
        dsimp only [Except.bind, Except.map]
        rw [idx_group]
        cases hg : groupNamed p w with
        | none => rfl
        | some i => rfl
theorem right_eq {lo hi : Nat} {ts : Toks} (hw : WF ts) : rRight lo hi ts = readNum lo hi ts := by
  rw [read_num (wf_sgn hw)]
  unfold rRight
  cases h5 : takeM .num ts with
  | error f => rfl
  | ok y =>
    obtain ⟨⟨q2, tok⟩, r2⟩ := y
    obtain ⟨n, hn5⟩ := take_num h5 (wf_sgn hw)
    have hn5 : tok = .num n := hn5
    subst hn5
    dsimp only [Except.bind]
    by_cases h : lo ≤ n ∧ n ≤ hi
    · rw [if_pos h, if_neg (by omega)]
    · rw [if_neg h, if_pos (by omega)]
theorem right_wf {lo hi n : Nat} {ts r : Toks} (hw : WF ts) (h : rRight lo hi ts = .ok (n, r)) : WF r ∧ lo ≤ n ∧ n ≤ hi := by
  unfold rRight at h
  cases h5 : takeM .num ts with
  | error f =>
    rw [h5] at h
    cases h
  | ok y =>
    rw [h5] at h
    obtain ⟨⟨q2, tok⟩, r2⟩ := y
    obtain ⟨n', hn5⟩ := take_num h5 (wf_sgn hw)
    have hn5 : tok = .num n' := hn5
    subst hn5
    dsimp only [Except.bind] at h
    by_cases h2 : lo ≤ n' ∧ n' ≤ hi
    · rw [if_pos h2] at h
      cases h
      exact ⟨wf_take (by decide) hw h5, h2⟩
    · rw [if_neg h2] at h
      cases h
theorem new_wf {names : List Text} {w : Text} {ts r : Toks} (hw : WF ts) (h : rNew names ts = .ok (w, r)) : WF r ∧ w.length ≤ 12 := by
  unfold rNew at h
  cases h4 : takeM .name ts with
  | error f =>
    rw [h4] at h
    cases h
  | ok y =>
    rw [h4] at h
    obtain ⟨⟨q, tok⟩, r'⟩ := y
    obtain ⟨w', hw4, _⟩ := take_name h4 (wf_sgn hw)
    have hw4 : tok = .word w' := hw4
    subst hw4
    dsimp only [Except.bind] at h
    cases hc : names.contains w' with
    | true =>
      rw [hc, if_pos rfl] at h
      cases h
    | false =>
      rw [hc, if_neg (by decide)] at h
      cases h
      exact ⟨wf_take (by decide) hw h4, take_name12 hw h4⟩
theorem known_wf {names : List Text} {q i : Nat} {ts r : Toks} (hw : WF ts) (h : rKnown names ts = .ok ((q, i), r)) : WF r ∧ i < names.length := by
  unfold rKnown at h
  cases h4 : takeM .name ts with
  | error f =>
    rw [h4] at h
    cases h
  | ok y =>
    rw [h4] at h
    obtain ⟨⟨q, tok⟩, r'⟩ := y
    obtain ⟨w', hw4, _⟩ := take_name h4 (wf_sgn hw)
    have hw4 : tok = .word w' := hw4
    subst hw4
    dsimp only [Except.bind] at h
    cases hc : idxOf names w' with
    | none =>
      rw [hc] at h
      cases h
    | some j =>
      rw [hc] at h
      cases h
      refine ⟨wf_take (by decide) hw h4, ?_⟩
      unfold idxOf at hc
      exact (List.findIdx?_eq_some_iff_getElem.mp hc).1
theorem in_wf {p : Plan} {g : Option Nat} {ts r : Toks} (hw : WF ts) (h : rIn p ts = .ok (g, r)) : WF r ∧ ∀ k, g = some k → k < p.groups.length := by
  unfold rIn at h
  cases h5 : isM .in_ ts with
  | error f =>
    rw [h5] at h
    cases h
  | ok b =>
    rw [h5] at h
    dsimp only [Except.bind] at h
    cases b with
    | false =>
      rw [if_neg (by decide)] at h
      cases h
      exact ⟨hw, fun k z => by cases z⟩
    | true =>
      rw [if_pos rfl] at h
      cases h6 : takeM .in_ ts with
      | error f =>
        rw [h6] at h
        cases h
      | ok x =>
        rw [h6] at h
        dsimp only at h
        have hw2 := wf_take (by decide) hw (show takeM .in_ ts = .ok (x.1, x.2) from h6)
        cases h7 : rKnown (gNames p) x.2 with
        | error f =>
          rw [h7] at h
          cases h
        | ok y =>
          rw [h7] at h
          obtain ⟨⟨q, i⟩, r'⟩ := y
          obtain ⟨a, b⟩ := known_wf hw2 h7
          cases h
          refine ⟨a, fun k z => ?_⟩
          cases z
          unfold gNames at b
          rw [List.length_map] at b
          exact b
theorem loop_wf {names : List Text} : ∀ (n : Nat) (l m : List Nat) (ts r : Toks), WF ts → rLoop names n l ts = .ok (m, r) → l.Nodup → (∀ x ∈ l, x < names.length) → WF r ∧ m.Nodup ∧ ∀ x ∈ m, x < names.length
  | 0, l, m, ts, r, hw, h, hd, hb => by cases h
  | n + 1, l, m, ts, r, hw, h, hd, hb => by
    unfold rLoop at h
    cases h7 : rKnown names ts with
    | error f =>
      rw [h7] at h
      cases h
    | ok y =>
      rw [h7] at h
      obtain ⟨⟨q, i⟩, r'⟩ := y
      obtain ⟨a, b⟩ := known_wf hw h7
      dsimp only [Except.bind] at h
      cases hc : l.contains i with
      | true =>
        rw [hc, if_pos rfl] at h
        cases h
      | false =>
        rw [hc, if_neg (by decide)] at h
        have hni : i ∉ l := fun z => by
          rw [List.contains_iff_mem.mpr z] at hc
          cases hc
        have hd2 : (l ++ [i]).Nodup := by
          refine List.nodup_append.mpr ⟨hd, by simp, ?_⟩
          intro a ha b hb'
          rw [List.mem_singleton] at hb'
          subst hb'
          exact fun z => hni (z ▸ ha)
        have hb2 : ∀ x ∈ l ++ [i], x < names.length := by
          intro x hx
          rcases List.mem_append.mp hx with hx | hx
          · exact hb x hx
          · rw [List.mem_singleton] at hx
            omega
        cases h5 : isM .comma r' with
        | error f =>
          rw [h5] at h
          cases h
        | ok c =>
          rw [h5] at h
          dsimp only at h
          cases c with
          | false =>
            rw [if_neg (by decide)] at h
            cases h
            exact ⟨a, hd2, hb2⟩
          | true =>
            rw [if_pos rfl] at h
            cases h6 : takeM .comma r' with
            | error f =>
              rw [h6] at h
              cases h
            | ok x =>
              rw [h6] at h
              exact loop_wf n _ _ _ _ (wf_take (by decide) a (show takeM .comma r' = .ok (x.1, x.2) from h6)) h hd2 hb2
theorem after_wf {p : Plan} {l : List Nat} {ts r : Toks} (hw : WF ts) (h : rAfter p ts = .ok (l, r)) : WF r ∧ l.Nodup ∧ ∀ x ∈ l, x < p.jobs.length := by
  unfold rAfter at h
  cases h5 : isM .after_ ts with
  | error f =>
    rw [h5] at h
    cases h
  | ok b =>
    rw [h5] at h
    dsimp only [Except.bind] at h
    cases b with
    | false =>
      rw [if_neg (by decide)] at h
      cases h
      exact ⟨hw, List.nodup_nil, fun k z => by cases z⟩
    | true =>
      rw [if_pos rfl] at h
      unfold rBehind at h
      cases h6 : takeM .after_ ts with
      | error f =>
        rw [h6] at h
        cases h
      | ok x =>
        rw [h6] at h
        have hw2 := wf_take (by decide) hw (show takeM .after_ ts = .ok (x.1, x.2) from h6)
        obtain ⟨h1, h2, h3⟩ := loop_wf _ _ _ _ _ hw2 h List.nodup_nil (fun x hx => by cases hx)
        unfold jNames at h3
        rw [List.length_map] at h3
        exact ⟨h1, h2, h3⟩
theorem bind_map {A B C : Type} (x : Except Fault A) (f : A → B) (g : B → Except Fault C) : (x.map f).bind g = x.bind fun a => g (f a) := by
  cases x <;> rfl
theorem map_bind {A B C : Type} (x : Except Fault A) (f : A → Except Fault B) (g : B → C) : (x.bind f).map g = x.bind fun a => (f a).map g := by
  cases x <;> rfl
theorem read_job_eq {p : Plan} {ts : Toks} (hw : WF ts) (h7 : p.jobs.length ≤ 7) (e : isWord "test" ts = true) : rTest p ts = readJob p ts := by
  obtain ⟨x, h1, h2⟩ := take_word (m := .test) rfl (wf_sgn hw) e
  have hw2 := wf_take (by decide) hw h1
  unfold rTest readJob
  rw [h1]
  simp only [Except.bind]
  by_cases h3 : p.jobs.length = 7
  · rw [if_pos h3, if_pos (show JOBS ≤ p.jobs.length by show 7 ≤ _; omega), h2]
  rw [if_neg h3, if_neg (show ¬ JOBS ≤ p.jobs.length by show ¬ 7 ≤ _; omega), read_name (wf_sgn hw2)]
  have en : rNew (jNames p) (ts.drop 1) = ((takeM .name (ts.drop 1)).map fun x => (match x.1 with
    | (p, .word w) => (p, w)
    | (p, _) => (p, []), x.2)).bind fun w => if (jobNamed p w.1.2).isSome then .error (6, w.1.1) else .ok (w.1.2, w.2) := by
    unfold rNew
    cases h4 : takeM .name (ts.drop 1) with
    | error f => rfl
    | ok y =>
      obtain ⟨⟨q, tok⟩, r⟩ := y
      obtain ⟨w, hw4, _⟩ := take_name h4 (wf_sgn hw2)
      have hw4 : tok = .word w := hw4
      subst hw4
      dsimp only [Except.bind, Except.map]
      rw [names_job]
  cases h4 : takeM .name (ts.drop 1) with
  | error f =>
    rw [h4] at en
    rw [en] <;> rfl
  | ok y =>
  obtain ⟨⟨q, tok⟩, r⟩ := y
  obtain ⟨w, hw4, _⟩ := take_name h4 (wf_sgn hw2)
  have hw3 := wf_take (by decide) hw2 h4
  have hw4 : tok = .word w := hw4
  subst hw4
  rw [h4] at en
  dsimp only [Except.bind, Except.map] at en ⊢
  rw [en]
  cases hg : (jobNamed p w).isSome with
  | true => rfl
  | false =>
  simp only [Bool.false_eq_true, if_false]
  rw [want_word (m := .cost) rfl (wf_sgn hw3)]
  cases h5 : takeM .cost r with
  | error f => rfl
  | ok y =>
  have hw5 := wf_take (by decide) hw3 (show takeM .cost r = .ok (y.1, y.2) from h5)
  dsimp only [Except.map]
  rw [right_eq hw5]
  cases h6 : readNum 1 COST y.2 with
  | error f =>
    rw [show readNum 1 1000 y.2 = .error f from h6]
  | ok c =>
  have hw6 := (right_wf hw5 (show rRight 1 1000 y.2 = .ok (c.1, c.2) by rw [right_eq hw5]; exact h6)).1
  rw [show readNum 1 1000 y.2 = .ok c from h6]
  dsimp only
  rw [want_word (m := .chance) rfl (wf_sgn hw6)]
  cases h7 : takeM .chance c.2 with
  | error f => rfl
  | ok d =>
  have hw7 := wf_take (by decide) hw6 (show takeM .chance c.2 = .ok (d.1, d.2) from h7)
  dsimp only [Except.map]
  rw [right_eq hw7]
  cases h8 : readNum 0 100 d.2 with
  | error f => rfl
  | ok h =>
  have hw8 := (right_wf hw7 (show rRight 0 100 d.2 = .ok (h.1, h.2) by rw [right_eq hw7]; exact h8)).1
  dsimp only
  have G1 : ∀ g : Option Nat, Fts fun a : List Nat × Toks => (wantSign 59 a.2).map fun r => (addJob p ⟨w, c.1, h.1, g, a.1⟩, r) := fun g a q k r => rfl
  have G2 : Fts fun g : Option Nat × Toks => (if isWord "after" g.2 then readAfter p g.2.length [] (g.2.drop 1) else .ok ([], g.2)).bind fun a : List Nat × Toks => (wantSign 59 a.2).map fun r => (addJob p ⟨w, c.1, h.1, g.1, a.1⟩, r) := fun a q k r => rfl
  refine Eq.trans ?_ (in_eq _ G2 hw8)
  cases h9 : rIn p h.2 with
  | error f => rfl
  | ok g =>
  have hw9 := (in_wf hw8 (show rIn p h.2 = .ok (g.1, g.2) from h9)).1
  refine Eq.trans ?_ (behind_eq _ (G1 g.1) hw9)
  cases h10 : rAfter p g.2 with
  | error f =>
    show Except.bind (rAfter p g.2) _ = _
    rw [h10] <;> rfl
  | ok a =>
  have hw10 := (after_wf hw9 (show rAfter p g.2 = .ok (a.1, a.2) from h10)).1
  show Except.bind (rAfter p g.2) _ = _
  rw [h10]
  dsimp only [Except.bind]
  rw [want_semi (wf_sgn hw10)]
  cases h11 : takeM .semi a.2 with
  | error f => rfl
  | ok y => rfl
/-! ### what holds of a plan that a text tells -/
structure JobOk (p : Plan) (i : Nat) (j : Job) : Prop where
  c1 : 1 ≤ j.cost
  c2 : j.cost ≤ 1000
  ch : j.chance ≤ 100
  gr : ∀ g, j.group = some g → g < p.groups.length
  af : ∀ b ∈ j.after_, b < i
  nd : j.after_.Nodup
  nm : j.name.length ≤ 12
structure Good (p : Plan) : Prop where
  g3 : p.groups.length ≤ 3
  j7 : p.jobs.length ≤ 7
  job : ∀ (i : Nat) (j : Job), p.jobs[i]? = some j → JobOk p i j
  grp : ∀ (i : Nat) (g : Group), p.groups[i]? = some g → g.setup ≤ 1000 ∧ g.name.length ≤ 12
theorem good_empty : Good emptyPlan := ⟨by decide, by decide, fun i j h => (by cases i <;> cases h), fun i j h => (by cases i <;> cases h)⟩
theorem good_group {p p' : Plan} {ts r : Toks} (good : Good p) (hw : WF ts) (h : rGroup p ts = .ok (p', r)) : Good p' ∧ WF r ∧ p'.groups.length + p'.jobs.length = p.groups.length + p.jobs.length + 1 := by
  unfold rGroup at h
  cases h1 : takeM .group ts with
  | error e => rw [h1] at h; cases h
  | ok x =>
  rw [h1] at h
  have w1 := wf_take (by decide) hw (show takeM .group ts = .ok (x.1, x.2) from h1)
  dsimp only [Except.bind] at h
  by_cases h0 : p.groups.length = 3
  · rw [if_pos h0] at h; cases h
  rw [if_neg h0] at h
  cases h2 : rNew (gNames p) x.2 with
  | error e => rw [h2] at h; cases h
  | ok y =>
  rw [h2] at h
  obtain ⟨w2, l2⟩ := new_wf w1 (show rNew (gNames p) x.2 = .ok (y.1, y.2) from h2)
  dsimp only at h
  cases h4 : rNum y.2 with
  | error e => rw [h4] at h; cases h
  | ok z =>
  rw [h4] at h
  have hz : WF z.2 ∧ z.1 ≤ 1000 := by
    unfold rNum at h4
    cases h5 : takeM .num y.2 with
    | error e => rw [h5] at h4; cases h4
    | ok u =>
      rw [h5] at h4
      obtain ⟨⟨q2, tok⟩, r2⟩ := u
      obtain ⟨n, hn5⟩ := take_num h5 (wf_sgn w2)
      have hn5 : tok = .num n := hn5
      subst hn5
      dsimp only [Except.bind] at h4
      cases h4
      exact ⟨wf_take (by decide) w2 h5, take_num1000 w2 h5⟩
  dsimp only at h
  cases h5 : takeM .semi z.2 with
  | error e => rw [h5] at h; cases h
  | ok u =>
  rw [h5] at h
  have w5 := wf_take (by decide) hz.1 (show takeM .semi z.2 = .ok (u.1, u.2) from h5)
  cases h
  have g3 := good.g3
  refine ⟨⟨?_, good.j7, fun i j hj => ?_, fun i g hg => ?_⟩, w5, by show (p.groups ++ [_]).length + p.jobs.length = _; rw [List.length_append, List.length_singleton]; omega⟩
  · show (p.groups ++ [_]).length ≤ 3
    rw [List.length_append, List.length_singleton]
    omega
  · obtain ⟨a1, a2, a3, a4, a5, a6, a7⟩ := good.job i j hj
    refine ⟨a1, a2, a3, fun g hg => ?_, a5, a6, a7⟩
    have := a4 g hg
    show g < (p.groups ++ [_]).length
    rw [List.length_append]
    omega
  · have hg : (p.groups ++ [_])[i]? = some g := hg
    rw [List.getElem?_append] at hg
    split at hg
    · exact good.grp i g hg
    · cases hi : i - p.groups.length with
      | zero =>
        rw [hi] at hg
        cases hg
        exact ⟨hz.2, l2⟩
      | succ k =>
        rw [hi] at hg
        cases hg
theorem good_test {p p' : Plan} {ts r : Toks} (good : Good p) (hw : WF ts) (h : rTest p ts = .ok (p', r)) : Good p' ∧ WF r ∧ p'.groups.length + p'.jobs.length = p.groups.length + p.jobs.length + 1 := by
  unfold rTest at h
  cases h1 : takeM .test ts with
  | error e => rw [h1] at h; cases h
  | ok x =>
  rw [h1] at h
  have w1 := wf_take (by decide) hw (show takeM .test ts = .ok (x.1, x.2) from h1)
  dsimp only [Except.bind] at h
  by_cases h0 : p.jobs.length = 7
  · rw [if_pos h0] at h; cases h
  rw [if_neg h0] at h
  cases h2 : rNew (jNames p) x.2 with
  | error e => rw [h2] at h; cases h
  | ok y =>
  rw [h2] at h
  obtain ⟨w2, l2⟩ := new_wf w1 (show rNew (jNames p) x.2 = .ok (y.1, y.2) from h2)
  dsimp only at h
  cases h3 : takeM .cost y.2 with
  | error e => rw [h3] at h; cases h
  | ok z =>
  rw [h3] at h
  have w3 := wf_take (by decide) w2 (show takeM .cost y.2 = .ok (z.1, z.2) from h3)
  dsimp only at h
  cases h4 : rRight 1 1000 z.2 with
  | error e => rw [h4] at h; cases h
  | ok c =>
  rw [h4] at h
  obtain ⟨w4, c1, c2⟩ := right_wf w3 (show rRight 1 1000 z.2 = .ok (c.1, c.2) from h4)
  dsimp only at h
  cases h5 : takeM .chance c.2 with
  | error e => rw [h5] at h; cases h
  | ok d =>
  rw [h5] at h
  have w5 := wf_take (by decide) w4 (show takeM .chance c.2 = .ok (d.1, d.2) from h5)
  dsimp only at h
  cases h6 : rRight 0 100 d.2 with
  | error e => rw [h6] at h; cases h
  | ok f =>
  rw [h6] at h
  obtain ⟨w6, f1, f2⟩ := right_wf w5 (show rRight 0 100 d.2 = .ok (f.1, f.2) from h6)
  dsimp only at h
  cases h7 : rIn p f.2 with
  | error e => rw [h7] at h; cases h
  | ok g =>
  rw [h7] at h
  obtain ⟨w7, g7⟩ := in_wf w6 (show rIn p f.2 = .ok (g.1, g.2) from h7)
  dsimp only at h
  cases h8 : rAfter p g.2 with
  | error e => rw [h8] at h; cases h
  | ok k =>
  rw [h8] at h
  obtain ⟨w8, n8, b8⟩ := after_wf w7 (show rAfter p g.2 = .ok (k.1, k.2) from h8)
  dsimp only at h
  cases h9 : takeM .semi k.2 with
  | error e => rw [h9] at h; cases h
  | ok u =>
  rw [h9] at h
  have w9 := wf_take (by decide) w8 (show takeM .semi k.2 = .ok (u.1, u.2) from h9)
  cases h
  have j7 := good.j7
  refine ⟨⟨good.g3, ?_, fun i j hj => ?_, good.grp⟩, w9, by show p.groups.length + (p.jobs ++ [_]).length = _; rw [List.length_append, List.length_singleton]; omega⟩
  · show (p.jobs ++ [_]).length ≤ 7
    rw [List.length_append, List.length_singleton]
    omega
  · have hj : (p.jobs ++ [_])[i]? = some j := hj
    rw [List.getElem?_append] at hj
    split at hj
    · obtain ⟨a1, a2, a3, a4, a5, a6, a7⟩ := good.job i j hj
      exact ⟨a1, a2, a3, a4, a5, a6, a7⟩
    · rename_i hlt
      cases hi : i - p.jobs.length with
      | zero =>
        rw [hi] at hj
        cases hj
        refine ⟨c1, c2, f2, g7, fun b hb => ?_, n8, l2⟩
        have := b8 b hb
        omega
      | succ k =>
        rw [hi] at hj
        cases hj
theorem is_test_no {ts : Toks} (hw : WF ts) (h : isWord "test" ts = false) : takeM .test ts = .error (faultAt ts) := by
  have e := want_word (m := .test) rfl (wf_sgn hw)
  unfold wantWord at e
  rw [h, if_neg (by decide)] at e
  cases h1 : takeM .test ts with
  | error f =>
    rw [h1] at e
    cases e
    rfl
  | ok x =>
    rw [h1] at e
    cases e
/-- the reader, from any plan on -/
theorem items_eq : ∀ (k : Nat) (p : Plan) (ts : Toks), Good p → WF ts → k + (p.groups.length + p.jobs.length) = 11 → rItems k p ts = readItems k p ts ∧ ∀ p', rItems k p ts = .ok p' → Good p'
  | 0, p, ts, good, hw, hk => by
    have := good.g3
    have := good.j7
    omega
  | k + 1, p, ts, good, hw, hk => by
    unfold rItems readItems
    cases h1 : isM .over ts with
    | error f =>
      obtain ⟨q, kd, r, rfl, rfl⟩ := bad_of (m' := .over) h1 (wf_sgn hw)
      exact ⟨rfl, fun p' h => by cases h⟩
    | ok b =>
      rw [is_over (wf_sgn hw) h1]
      cases b with
      | true => exact ⟨rfl, fun p' h => by cases h; exact good⟩
      | false =>
        simp only [Except.bind, Bool.false_eq_true, if_false]
        cases h2 : isM .group ts with
        | error f =>
          obtain ⟨q, kd, r, rfl, rfl⟩ := bad_of (m' := .over) h2 (wf_sgn hw)
          exact ⟨rfl, fun p' h => by cases h⟩
        | ok g =>
          have e2 := is_word (m := .group) rfl (wf_sgn hw) h2
          rw [show isWord "group" ts = g from e2]
          cases g with
          | true =>
            simp only [if_true]
            rw [read_group_eq hw good.g3 e2]
            cases h3 : readGroup p ts with
            | error f => exact ⟨rfl, fun p' h => by cases h⟩
            | ok z =>
              have h3' : rGroup p ts = .ok (z.1, z.2) := (read_group_eq hw good.g3 e2).trans h3
              obtain ⟨good2, hw2, hl⟩ := good_group good hw h3'
              exact items_eq k z.1 z.2 good2 hw2 (by omega)
          | false =>
            simp only [Bool.false_eq_true, if_false]
            cases e3 : isWord "test" ts with
            | false =>
              simp only [Bool.false_eq_true, if_false]
              unfold rTest
              rw [is_test_no hw e3]
              exact ⟨rfl, fun p' h => by cases h⟩
            | true =>
              simp only [if_true]
              rw [read_job_eq hw good.j7 e3]
              cases h3 : readJob p ts with
              | error f => exact ⟨rfl, fun p' h => by cases h⟩
              | ok z =>
                have h3' : rTest p ts = .ok (z.1, z.2) := (read_job_eq hw good.j7 e3).trans h3
                obtain ⟨good2, hw2, hl⟩ := good_test good hw h3'
                exact items_eq k z.1 z.2 good2 hw2 (by omega)
theorem plan_eq (t : Text) : rPlan t = readPlan t ∧ ∀ p, rPlan t = .ok p → Good p := by
  unfold rPlan readPlan
  rw [← toksAt_zero]
  exact items_eq 11 emptyPlan _ good_empty (wf_at t _ 0 (Nat.le_refl _)) rfl
end
section
/-- the tests that may run -/
def mayRun (p : Plan) (done : List Nat) (k : Nat) : List Nat := (List.range k).filter fun i => !done.contains i && (jobAt p i).after_.all done.contains
theorem mayRun_succ (p : Plan) (done : List Nat) (k : Nat) : mayRun p done (k + 1) = mayRun p done k ++ (if (!done.contains k && (jobAt p k).after_.all done.contains) = true then [k] else []) := by
  unfold mayRun
  rw [List.range_succ, List.filter_append, List.filter_cons]
  split <;> rfl
theorem mayRun_lt {p : Plan} {done : List Nat} {k m : Nat} (h : m ∈ mayRun p done k) : m < k := by
  unfold mayRun at h
  exact List.mem_range.mp (List.mem_filter.mp h).1
def bef (p : Plan) (o n : Nat) : Bool := decide ((jobAt p o).chance ≠ 0) && decide ((jobAt p n).chance = 0) || decide ((jobAt p o).cost * (jobAt p n).chance < (jobAt p n).cost * (jobAt p o).chance)
def isFst (p : Plan) (some : List Nat) (n : Nat) : Bool := decide (some.filter (fun o => decide (o ≠ n) && bef p o n) = [])
/-- the rule's order so far -/
def ruleUp (p : Plan) : Nat → List Nat
  | 0 => []
  | k + 1 => ruleUp p k ++ ((mayRun p (ruleUp p k) p.jobs.length).filter fun n => isFst p (mayRun p (ruleUp p k) p.jobs.length) n).take 1
end
section
def rangeI (n : Nat) : List Int := (List.range n).map fun i : Nat => (i : Int)
theorem perm_of_sub {α : Type} [DecidableEq α] : ∀ (a b : List α), a.Nodup → a ⊆ b → b.length ≤ a.length → a.Perm b
  | [], b, _, _, hl => by
    have : b = [] := List.length_eq_zero_iff.mp (by simpa using hl)
    rw [this]
  | x :: a, b, hd, hs, hl => by
    obtain ⟨hx, hd⟩ := List.nodup_cons.mp hd
    have hxb : x ∈ b := hs (List.mem_cons_self ..)
    have hp := List.perm_cons_erase hxb
    have ih := perm_of_sub a (b.erase x) hd (fun y hy => by
      have hne : y ≠ x := fun z => hx (z ▸ hy)
      exact (List.mem_erase_of_ne hne).mpr (hs (List.mem_cons_of_mem _ hy))) (by
      rw [List.length_erase_of_mem hxb]
      rw [List.length_cons] at hl
      omega)
    exact (ih.cons x).trans hp.symm
theorem rangeI_sorted (n : Nat) : (rangeI n).Pairwise (· ≤ ·) := by
  unfold rangeI
  rw [List.pairwise_map]
  exact List.pairwise_lt_range.imp fun h => by omega
theorem toNats_cast (m : List Nat) : toNats (m.map fun i : Nat => (i : Int)) = m := by
  unfold toNats
  rw [List.map_map]
  have e : (Int.toNat ∘ fun i : Nat => (i : Int)) = id := by
    funext x
    exact Int.toNat_natCast x
  rw [e, List.map_id]
theorem row_nats {n : Nat} : ∀ {ns : List Int}, isRow n ns = true → ns = (toNats ns).map (fun i : Nat => (i : Int)) ∧ ∀ m ∈ toNats ns, m < n
  | [], _ => ⟨rfl, fun m hm => by cases hm⟩
  | x :: ns, h => by
    unfold isRow at h
    rw [List.all_cons, Bool.and_eq_true, Bool.and_eq_true] at h
    obtain ⟨⟨h1, h2⟩, h3⟩ := h
    have h1 := of_decide_eq_true h1
    have h2 := of_decide_eq_true h2
    obtain ⟨a, b⟩ := row_nats (n := n) (ns := ns) h3
    refine ⟨?_, fun m hm => ?_⟩
    · show x :: ns = (x.toNat : Int) :: (toNats ns).map _
      rw [← a, Int.toNat_of_nonneg h1]
    · have hm : m ∈ x.toNat :: toNats ns := hm
      rcases List.mem_cons.mp hm with rfl | hm
      · omega
      · exact b m hm
/-- the first test of is_order -/
theorem order_first {n : Nat} {ns ns' : List Int} (hp : ns'.Perm ns) (hs : ns'.Pairwise (· ≤ ·)) : decide (ns' = rangeI n) = (isRow n ns && ((toNats ns).length == n && (List.range n).all (toNats ns).contains)) := by
  rw [Bool.eq_iff_iff, decide_eq_true_iff, Bool.and_eq_true, Bool.and_eq_true, beq_iff_eq]
  constructor
  · intro e
    rw [e] at hp
    have hrow : isRow n ns = true := by
      unfold isRow
      rw [List.all_eq_true]
      intro x hx
      have hx2 := hp.mem_iff.mpr hx
      obtain ⟨i, hi, rfl⟩ := List.mem_map.mp hx2
      have hi := List.mem_range.mp hi
      rw [Bool.and_eq_true]
      exact ⟨decide_eq_true (by omega), decide_eq_true (by omega)⟩
    obtain ⟨a, b⟩ := row_nats hrow
    have hp2 : ((List.range n).map fun i : Nat => (i : Int)).Perm ((toNats ns).map fun i : Nat => (i : Int)) := by
      rw [← a]
      exact hp
    have hp3 : (List.range n).Perm (toNats ns) := by
      have h := hp2.map Int.toNat
      rw [List.map_map, List.map_map] at h
      have e : (Int.toNat ∘ fun i : Nat => (i : Int)) = id := by
        funext x
        exact Int.toNat_natCast x
      rw [e, List.map_id, List.map_id] at h
      exact h
    refine ⟨hrow, by rw [← hp3.length_eq, List.length_range], ?_⟩
    rw [List.all_eq_true]
    intro i hi
    exact List.contains_iff_mem.mpr (hp3.mem_iff.mp hi)
  · rintro ⟨hrow, hlen, hall⟩
    obtain ⟨a, b⟩ := row_nats hrow
    have hp3 : (List.range n).Perm (toNats ns) := perm_of_sub _ _ List.nodup_range (fun i hi => List.contains_iff_mem.mp (List.all_eq_true.mp hall i hi)) (by rw [List.length_range, hlen]; exact Nat.le_refl _)
    have hp2 : (rangeI n).Perm ns := by
      rw [a]
      exact hp3.map _
    exact List.Perm.eq_of_pairwise (le := (· ≤ ·)) (fun x y _ _ h1 h2 => Int.le_antisymm h1 h2) hs (rangeI_sorted n) (hp.trans hp2.symm)
theorem all_zipIdx {α : Type} (F : α → Nat → Bool) : ∀ (l : List α) (k : Nat), (l.zipIdx k).all (fun z => F z.1 z.2) = (List.range l.length).all fun i => (l[i]?).elim true fun x => F x (k + i)
  | [], k => rfl
  | x :: l, k => by
    rw [List.zipIdx_cons, List.all_cons, all_zipIdx F l (k + 1), List.length_cons, List.range_succ_eq_map, List.all_cons, List.all_map]
    congr 1
    congr 1
    funext i
    show ((l[i]?).elim true fun x => F x (k + 1 + i)) = ((l[i]?).elim true fun x => F x (k + (i + 1)))
    rw [show k + 1 + i = k + (i + 1) by omega]
/-- what is_order looks at behind -/
def ordUp (p : Plan) (o : List Nat) (k : Nat) : Bool := (List.range k).all fun i => (o[i]?).elim true fun x => (jobAt p x).after_.all fun j => (o.take i).contains j
theorem isOrder_up (p : Plan) (o : List Nat) : isOrder p o = (o.length == p.jobs.length && (List.range p.jobs.length).all o.contains && ordUp p o o.length) := by
  unfold isOrder ordUp
  have e := all_zipIdx (fun x i => (jobAt p x).after_.all fun j => (o.take i).contains j) o 0
  simp only [Nat.zero_add] at e
  rw [e]
theorem ordUp_succ (p : Plan) (o : List Nat) (k : Nat) {x : Nat} (h : o[k]? = some x) : ordUp p o (k + 1) = (ordUp p o k && (jobAt p x).after_.all (o.take k).contains) := by
  unfold ordUp
  rw [List.range_succ, List.all_append]
  congr 1
  rw [List.all_cons, List.all_nil, Bool.and_true, h]
  rfl
theorem ordUp_false {p : Plan} {o : List Nat} {k : Nat} (h : ordUp p o k = false) : ∀ n, k ≤ n → ordUp p o n = false := by
  intro n hn
  unfold ordUp at *
  rw [List.all_eq_false] at *
  obtain ⟨i, h1, h2⟩ := h
  exact ⟨i, List.mem_range.mpr (Nat.lt_of_lt_of_le (List.mem_range.mp h1) hn), h2⟩
/-! ### the expected cost -/
def lastAt (p : Plan) (o : List Nat) (k : Nat) : Option Nat := (o.take k).foldl (groupAfter p) none
theorem lastAt_succ (p : Plan) (o : List Nat) (k : Nat) {x : Nat} (h : o[k]? = some x) : lastAt p o (k + 1) = groupAfter p (lastAt p o k) x := by
  unfold lastAt
  obtain ⟨hi, e⟩ := List.getElem?_eq_some_iff.mp h
  rw [List.take_add_one, h, List.foldl_append] <;> rfl
def restCost (p : Plan) (o : List Nat) (k : Nat) : Nat := expectedFrom p (lastAt p o k) (o.drop k)
theorem restCost_all (p : Plan) (o : List Nat) : restCost p o o.length = 0 := by
  unfold restCost
  rw [List.drop_length] <;> rfl
theorem restCost_zero (p : Plan) (o : List Nat) : restCost p o 0 = expectedOf p o := rfl
theorem restCost_step (p : Plan) (o : List Nat) (k : Nat) {x : Nat} (h : o[k]? = some x) : restCost p o k = costFrom p (lastAt p o k) x * 100 ^ (o.length - k) + (100 - (jobAt p x).chance) * restCost p o (k + 1) := by
  obtain ⟨hi, e⟩ := List.getElem?_eq_some_iff.mp h
  unfold restCost
  rw [drop_cons h, lastAt_succ p o k h]
  show costFrom p (lastAt p o k) x * 100 ^ ((o.drop (k + 1)).length + 1) + _ = _
  rw [List.length_drop, show o.length - (k + 1) + 1 = o.length - k by omega]
def costsUp (p : Plan) (o : List Nat) (k : Nat) : List Nat := (List.range k).map fun i => costFrom p (lastAt p o i) (o.getD i 0)
theorem costsUp_succ (p : Plan) (o : List Nat) (k : Nat) {x : Nat} (h : o[k]? = some x) : costsUp p o (k + 1) = costsUp p o k ++ [costFrom p (lastAt p o k) x] := by
  unfold costsUp
  rw [List.range_succ, List.map_append, List.map_singleton, List.getD_eq_getElem?_getD, h] <;> rfl
theorem costsUp_get (p : Plan) (o : List Nat) {n k x : Nat} (hk : k < n) (h : o[k]? = some x) : (costsUp p o n)[k]? = some (costFrom p (lastAt p o k) x) := by
  unfold costsUp
  rw [List.getElem?_map, List.getElem?_range hk]
  show some (costFrom p (lastAt p o k) (o.getD k 0)) = _
  rw [List.getD_eq_getElem?_getD, h] <;> rfl
end
section
def waysP (m : Nat) : Nat → List (List Nat)
  | 0 => [[]]
  | n + 1 => (waysP m n).flatMap fun w => (List.range m).map fun k => w ++ [k]
theorem waysFor_snoc (m : Nat) : ∀ n, waysFor m (n + 1) = (waysFor m n).flatMap fun w => (List.range m).map fun k => w ++ [k]
  | 0 => by
    simp [waysFor, List.map_eq_flatMap]
  | n + 1 => by
    show (List.range m).flatMap (fun a => (waysFor m (n + 1)).map fun l => a :: l) = ((List.range m).flatMap fun a => (waysFor m n).map fun l => a :: l).flatMap _
    rw [List.flatMap_assoc]
    congr 1
    funext a
    rw [waysFor_snoc m n, List.map_flatMap, List.flatMap_map]
    congr 1
    funext w
    rw [List.map_map] <;> rfl
theorem ways_eq (m : Nat) : ∀ n, waysP m n = waysFor m n
  | 0 => rfl
  | n + 1 => by
    rw [waysFor_snoc, ← ways_eq m n] <;> rfl
theorem ways_ok (m : Nat) : ∀ (n : Nat) (w : List Nat), w ∈ waysP m n → w.length = n ∧ ∀ k ∈ w, k < m
  | 0, w, h => by
    have h : w ∈ [[]] := h
    rw [List.mem_singleton] at h
    subst h
    exact ⟨rfl, fun k hk => by cases hk⟩
  | n + 1, w, h => by
    have h : w ∈ (waysP m n).flatMap fun w => (List.range m).map fun k => w ++ [k] := h
    obtain ⟨v, hv, hw⟩ := List.mem_flatMap.mp h
    obtain ⟨k, hk, rfl⟩ := List.mem_map.mp hw
    obtain ⟨h1, h2⟩ := ways_ok m n v hv
    refine ⟨by rw [List.length_append, h1] <;> rfl, fun j hj => ?_⟩
    rcases List.mem_append.mp hj with hj | hj
    · exact h2 j hj
    · rw [List.mem_singleton] at hj
      rw [hj]
      exact List.mem_range.mp hk
theorem ways_len (m : Nat) : ∀ n, (waysP m n).length = m ^ n
  | 0 => rfl
  | n + 1 => by
    show ((waysP m n).flatMap fun w => (List.range m).map fun k => w ++ [k]).length = _
    rw [List.length_flatMap]
    have : ∀ l : List (List Nat), (l.map fun w => ((List.range m).map fun k => w ++ [k]).length).sum = l.length * m := fun l => by
      induction l with
      | nil => simp
      | cons x l ih =>
        rw [List.map_cons, List.sum_cons, ih, List.length_map, List.length_range, List.length_cons, Nat.succ_mul]
        omega
    rw [this, ways_len m n, Nat.pow_succ]
def mineP (way : List Nat) (k n : Nat) : List Nat := (List.range n).filter fun i => way.getD i 0 == k
theorem mineP_succ (way : List Nat) (k n : Nat) {x : Nat} (h : way[n]? = some x) : mineP way k (n + 1) = mineP way k n ++ (if x = k then [n] else []) := by
  unfold mineP
  rw [List.range_succ, List.filter_append]
  congr 1
  rw [List.filter_cons, List.getD_eq_getElem?_getD, h]
  by_cases e : x = k
  · subst e
    simp
  · have e2 : ((some x).getD 0 == k) = false := beq_eq_false_iff_ne.mpr e
    rw [e2, if_neg (by decide), if_neg e] <;> rfl
theorem busy_cost (p : Plan) (way : List Nat) (k : Nat) : busy p way k = costOf p (mineP way k p.jobs.length) := rfl
theorem mineP_lt {way : List Nat} {k n i : Nat} (h : i ∈ mineP way k n) : i < n := by
  unfold mineP at h
  exact List.mem_range.mp (List.mem_filter.mp h).1
theorem mineP_len (way : List Nat) (k n : Nat) : (mineP way k n).length ≤ n := by
  unfold mineP
  have z := List.length_filter_le (fun i => way.getD i 0 == k) (List.range n)
  rw [List.length_range] at z
  exact z
theorem timeOf_zero (p : Plan) (way : List Nat) : timeOf p 0 way = 0 := rfl
theorem timeOf_succ (p : Plan) (k : Nat) (way : List Nat) : timeOf p (k + 1) way = Nat.max (timeOf p k way) (busy p way k) := by
  unfold timeOf
  rw [List.range_succ, List.map_append, List.foldl_append] <;> rfl
def bestW (p : Plan) (m : Nat) (ws : List (List Nat)) : Option Found := least (ws.map fun w => { cost := timeOf p m w, order := w })
theorem bestW_snoc (p : Plan) (m : Nat) (ws : List (List Nat)) (w : List Nat) : bestW p m (ws ++ [w]) = match bestW p m ws with
    | none => some { cost := timeOf p m w, order := w }
    | some y => if timeOf p m w < y.cost then some { cost := timeOf p m w, order := w } else some y := by
  unfold bestW least
  rw [List.map_append, List.foldl_append] <;> rfl
theorem bestW_mem (p : Plan) (m : Nat) : ∀ (ws : List (List Nat)), (ws = [] → bestW p m ws = none) ∧ (ws ≠ [] → ∃ w ∈ ws, bestW p m ws = some { cost := timeOf p m w, order := w }) := by
  refine snoc_ind ⟨fun _ => rfl, fun h => absurd rfl h⟩ fun l x ih => ⟨fun h => by simp at h, fun _ => ?_⟩
  rw [bestW_snoc]
  by_cases hl : l = []
  · subst hl
    exact ⟨x, by simp, rfl⟩
  · obtain ⟨w, hw, e⟩ := ih.2 hl
    rw [e]
    dsimp only
    split
    · exact ⟨x, by simp, rfl⟩
    · exact ⟨w, List.mem_append.mpr (.inl hw), rfl⟩
/-! ### choices -/
def choicesP : Nat → List (List Nat)
  | 0 => [[]]
  | n + 1 => (choicesP n).flatMap fun s => [s ++ [n], s]
theorem subsets_snoc (x : Nat) : ∀ l : List Nat, subsets (l ++ [x]) = (subsets l).flatMap fun s => [s ++ [x], s]
  | [] => rfl
  | a :: l => by
    show (subsets (l ++ [x])).map (fun l => a :: l) ++ subsets (l ++ [x]) = ((subsets l).map (fun l => a :: l) ++ subsets l).flatMap _
    rw [subsets_snoc x l, List.flatMap_append, List.map_flatMap, List.flatMap_map] <;> rfl
theorem choices_eq : ∀ n, choicesP n = subsets (List.range n)
  | 0 => rfl
  | n + 1 => by
    rw [List.range_succ, subsets_snoc, ← choices_eq n] <;> rfl
theorem choices_ok : ∀ (n : Nat) (s : List Nat), s ∈ choicesP n → s.length ≤ n ∧ ∀ k ∈ s, k < n
  | 0, s, h => by
    have h : s ∈ [[]] := h
    rw [List.mem_singleton] at h
    subst h
    exact ⟨Nat.le_refl _, fun k hk => by cases hk⟩
  | n + 1, s, h => by
    have h : s ∈ (choicesP n).flatMap fun s => [s ++ [n], s] := h
    obtain ⟨v, hv, hs⟩ := List.mem_flatMap.mp h
    obtain ⟨h1, h2⟩ := choices_ok n v hv
    simp only [List.mem_cons, List.not_mem_nil, or_false] at hs
    rcases hs with rfl | rfl
    · refine ⟨by rw [List.length_append, List.length_singleton]; omega, fun k hk => ?_⟩
      rcases List.mem_append.mp hk with hk | hk
      · have := h2 k hk
        omega
      · rw [List.mem_singleton] at hk
        omega
    · exact ⟨by omega, fun k hk => by have := h2 k hk; omega⟩
theorem choices_len : ∀ n, (choicesP n).length = 2 ^ n
  | 0 => rfl
  | n + 1 => by
    show ((choicesP n).flatMap fun s => [s ++ [n], s]).length = _
    rw [List.length_flatMap]
    have : ∀ l : List (List Nat), (l.map fun s => [s ++ [n], s].length).sum = l.length * 2 := fun l => by
      induction l with
      | nil => simp
      | cons x l ih =>
        rw [List.map_cons, List.sum_cons, ih]
        show 2 + l.length * 2 = (l.length + 1) * 2
        omega
    rw [this, choices_len n, Nat.pow_succ]
def okC (p : Plan) (b : Nat) (l : List Nat) : Bool := isClosed p l && decide (costOf p l ≤ b)
def chOf (p : Plan) (l : List Nat) : Choice := { miss := missOf p l, cost := costOf p l, jobs := l }
def bestC (p : Plan) (b : Nat) (ls : List (List Nat)) : Option Choice := (ls.filterMap fun l => if okC p b l then some (chOf p l) else none).foldl (fun z x => match z with
  | none => some x
  | some y => if better x y then some x else some y) none
theorem bestC_all (p : Plan) (b : Nat) : bestC p b (choicesP p.jobs.length) = budgetFor p b := by
  rw [choices_eq] <;> rfl
theorem bestC_snoc (p : Plan) (b : Nat) (ls : List (List Nat)) (l : List Nat) : bestC p b (ls ++ [l]) = if okC p b l then (match bestC p b ls with
    | none => some (chOf p l)
    | some y => if better (chOf p l) y then some (chOf p l) else some y) else bestC p b ls := by
  unfold bestC
  rw [List.filterMap_append, List.foldl_append]
  cases h : okC p b l with
  | true =>
    have e : [l].filterMap (fun l => if okC p b l then some (chOf p l) else none) = [chOf p l] := by
      rw [List.filterMap_cons, h] <;> rfl
    rw [e] <;> rfl
  | false =>
    have e : [l].filterMap (fun l => if okC p b l then some (chOf p l) else none) = [] := by
      rw [List.filterMap_cons, h] <;> rfl
    rw [e] <;> rfl
theorem bestC_of (p : Plan) (b : Nat) : ∀ ls, (∀ c, bestC p b ls = some c → c = chOf p c.jobs ∧ c.jobs ∈ ls) ∧ (bestC p b ls = none → ∀ l ∈ ls, okC p b l = false) := by
  refine snoc_ind ⟨fun c h => (by cases h), fun _ l hl => (by cases hl)⟩ fun ls l ih => ?_
  rw [bestC_snoc]
  obtain ⟨i1, i2⟩ := ih
  cases h : okC p b l with
  | false =>
    simp only [Bool.false_eq_true, if_false]
    refine ⟨fun c hc => ?_, fun hn x hx => ?_⟩
    · obtain ⟨a, b⟩ := i1 c hc
      exact ⟨a, List.mem_append.mpr (.inl b)⟩
    · rcases List.mem_append.mp hx with hx | hx
      · exact i2 hn x hx
      · rw [List.mem_singleton] at hx
        rw [hx]
        exact h
  | true =>
    simp only [if_true]
    cases e : bestC p b ls with
    | none =>
      dsimp only
      refine ⟨fun c hc => ?_, fun hn => by cases hn⟩
      cases hc
      exact ⟨rfl, by simp [chOf]⟩
    | some y =>
      dsimp only
      obtain ⟨a, b⟩ := i1 y e
      split
      · refine ⟨fun c hc => ?_, fun hn => by cases hn⟩
        cases hc
        exact ⟨rfl, by simp [chOf]⟩
      · refine ⟨fun c hc => ?_, fun hn => by cases hn⟩
        cases hc
        exact ⟨a, List.mem_append.mpr (.inl b)⟩
theorem nil_choice : ∀ n, [] ∈ choicesP n
  | 0 => by simp [choicesP]
  | n + 1 => List.mem_flatMap.mpr ⟨[], nil_choice n, by simp⟩
theorem costOf_nil (p : Plan) : costOf p [] = 0 := by
  rw [cost_sum] <;> rfl
theorem budget_some (p : Plan) (b : Nat) : ∃ c, budgetFor p b = some c ∧ c = chOf p c.jobs ∧ c.jobs.length ≤ p.jobs.length ∧ ∀ k ∈ c.jobs, k < p.jobs.length := by
  rw [← bestC_all]
  obtain ⟨h1, h2⟩ := bestC_of p b (choicesP p.jobs.length)
  cases e : bestC p b (choicesP p.jobs.length) with
  | none =>
    have z := h2 e [] (nil_choice _)
    unfold okC at z
    rw [costOf_nil] at z
    simp [isClosed] at z
  | some c =>
    obtain ⟨a, d⟩ := h1 c e
    obtain ⟨k1, k2⟩ := choices_ok _ _ d
    exact ⟨c, rfl, a, k1, k2⟩
end
section
theorem least_snoc (l : List Found) (x : Found) : least (l ++ [x]) = match least l with
    | none => some x
    | some y => if x.cost < y.cost then some x else some y := by
  unfold least
  rw [List.foldl_append] <;> rfl
theorem least_cost : ∀ l : List Found, l ≠ [] → ∃ z, least l = some z ∧ z ∈ l ∧ ∀ y ∈ l, z.cost ≤ y.cost := by
  refine snoc_ind (fun h => absurd rfl h) fun l x ih _ => ?_
  rw [least_snoc]
  by_cases hl : l = []
  · subst hl
    exact ⟨x, rfl, by simp, fun y hy => by simp at hy; rw [hy]; exact Nat.le_refl _⟩
  · obtain ⟨z, h1, h2, h3⟩ := ih hl
    rw [h1]
    dsimp only
    by_cases hc : x.cost < z.cost
    · rw [if_pos hc]
      refine ⟨x, rfl, by simp, fun y hy => ?_⟩
      rcases List.mem_append.mp hy with hy | hy
      · have := h3 y hy
        omega
      · rw [List.mem_singleton] at hy
        rw [hy]
        exact Nat.le_refl _
    · rw [if_neg hc]
      refine ⟨z, rfl, List.mem_append.mpr (.inl h2), fun y hy => ?_⟩
      rcases List.mem_append.mp hy with hy | hy
      · exact h3 y hy
      · rw [List.mem_singleton] at hy
        rw [hy]
        omega
/-- the first of the least of pairs, as Python compares them -/
def ltP (y a : Int × Int) : Bool := if y.1 = a.1 then decide (y.2 < a.2) else decide (y.1 < a.1)
def minP (x : Int × Int) (xs : List (Int × Int)) : Int × Int := xs.foldl (fun a y => if ltP y a = true then y else a) x
theorem minP_snoc (x : Int × Int) (xs : List (Int × Int)) (y : Int × Int) : minP x (xs ++ [y]) = if ltP y (minP x xs) = true then y else minP x xs := by
  unfold minP
  rw [List.foldl_append] <;> rfl
def pr (c : Nat → Nat) (k : Nat) : Int × Int := (((c k : Nat) : Int), ((k : Nat) : Int))
theorem pick_min (c : Nat → Nat) (f : Nat → List Nat) (i : Nat) : ∀ l : List Nat, (i :: l).Pairwise (· < ·) →
    ∃ i0, i0 ∈ i :: l ∧ least ((i :: l).map fun k => { cost := c k, order := f k }) = some { cost := c i0, order := f i0 } ∧ minP (pr c i) (l.map (pr c)) = pr c i0 := by
  refine snoc_ind (fun _ => ⟨i, by simp, rfl, rfl⟩) fun l x ih hp => ?_
  rw [← List.cons_append] at hp
  obtain ⟨h1, _, h2⟩ := List.pairwise_append.mp hp
  obtain ⟨i0, hm, e1, e2⟩ := ih h1
  have hlt : i0 < x := h2 i0 hm x (by simp)
  rw [← List.cons_append, List.map_append, List.map_singleton, List.map_append, List.map_singleton, least_snoc, minP_snoc, e1, e2]
  dsimp only
  have el : ltP (pr c x) (pr c i0) = decide (c x < c i0) := by
    unfold ltP pr
    dsimp only
    by_cases h : c x = c i0
    · rw [if_pos (by rw [h]), h]
      rw [decide_eq_false (by omega), decide_eq_false (by omega)]
    · rw [if_neg (by omega)]
      exact decide_eq_decide.mpr (by omega)
  rw [el]
  by_cases hc : c x < c i0
  · rw [if_pos hc, if_pos (decide_eq_true hc)]
    exact ⟨x, by simp, rfl, rfl⟩
  · rw [if_neg hc, if_neg (by simpa using hc)]
    exact ⟨i0, by simp only [List.cons_append, List.mem_cons, List.mem_append] at hm ⊢; rcases hm with h | h; exact .inl h; exact .inr (.inl h), rfl, rfl⟩
/-! ### the best order -/
def restOf (p : Plan) (done : List Nat) : List Nat := (List.range p.jobs.length).filter fun i => !done.contains i
theorem ready_may (p : Plan) (done : List Nat) : readyIn p done (restOf p done) = mayRun p done p.jobs.length := by
  unfold readyIn restOf mayRun
  rw [List.filter_filter]
  congr 1
  funext i
  exact Bool.and_comm ..
theorem contains_snoc (done : List Nat) (i x : Nat) : (done ++ [i]).contains x = (done.contains x || x == i) := by
  rw [List.contains_eq_any_beq, List.any_append, ← List.contains_eq_any_beq]
  simp
theorem rest_snoc (p : Plan) (done : List Nat) (i : Nat) : (restOf p done).filter (fun j => j != i) = restOf p (done ++ [i]) := by
  unfold restOf
  rw [List.filter_filter]
  congr 1
  funext x
  rw [contains_snoc, Bool.not_or, Bool.and_comm] <;> rfl
def Sim (a b : List Nat) : Prop := ∀ x, a.contains x = b.contains x
theorem Sim.snoc {a b : List Nat} (h : Sim a b) (i : Nat) : Sim (a ++ [i]) (b ++ [i]) := fun x => by rw [contains_snoc, contains_snoc, h x]
theorem Sim.of_perm {a b : List Nat} (h : a.Perm b) : Sim a b := fun _ => h.contains_eq
theorem best_sim (p : Plan) : ∀ (n : Nat) (last : Option Nat) (a b rest : List Nat), Sim a b → bestFrom p n last a rest = bestFrom p n last b rest
  | 0, _, _, _, _, _ => rfl
  | n + 1, last, a, b, rest, h => by
    have e : readyIn p a rest = readyIn p b rest := by
      unfold readyIn
      congr 1
      funext i
      congr 1
      funext x
      exact h x
    unfold bestFrom
    rw [e]
    have e2 : (fun i => let z := bestFrom p n (groupAfter p last i) (a ++ [i]) (rest.filter fun j => j != i); ({ cost := costFrom p last i * 100 ^ (n + 1) + (100 - (jobAt p i).chance) * z.cost, order := i :: z.order } : Found)) =
        fun i => let z := bestFrom p n (groupAfter p last i) (b ++ [i]) (rest.filter fun j => j != i); ({ cost := costFrom p last i * 100 ^ (n + 1) + (100 - (jobAt p i).chance) * z.cost, order := i :: z.order } : Found) := by
      funext i
      dsimp only
      rw [best_sim p n _ _ _ _ (h.snoc i)]
    rw [e2]
theorem rest_sim (p : Plan) {a b : List Nat} (h : Sim a b) : restOf p a = restOf p b := by
  unfold restOf
  congr 1
  funext i
  rw [h i]
theorem may_sim (p : Plan) {a b : List Nat} (h : Sim a b) (k : Nat) : mayRun p a k = mayRun p b k := by
  unfold mayRun
  congr 1
  funext i
  rw [h i]
  congr 2
  funext x
  exact h x
/-- the best of what's left -/
def bst (p : Plan) (done : List Nat) (last : Option Nat) : Found := bestFrom p (p.jobs.length - done.length) last done (restOf p done)
theorem bst_sim (p : Plan) {a b : List Nat} (last : Option Nat) (h : a.Perm b) : bst p a last = bst p b last := by
  unfold bst
  rw [h.length_eq, best_sim p _ _ _ _ _ (Sim.of_perm h), rest_sim p (Sim.of_perm h)]
def fromOn (p : Plan) (done : List Nat) (last : Option Nat) (i : Nat) : Nat := costFrom p last i * 100 ^ (p.jobs.length - done.length) + (100 - (jobAt p i).chance) * (bst p (done ++ [i]) (groupAfter p last i)).cost
theorem bst_done (p : Plan) {done : List Nat} (last : Option Nat) (h : done.length = p.jobs.length) : bst p done last = { cost := 0, order := [] } := by
  unfold bst
  rw [h, Nat.sub_self] <;> rfl
theorem bst_step (p : Plan) {done : List Nat} (last : Option Nat) (h : done.length < p.jobs.length) : bst p done last = (least ((mayRun p done p.jobs.length).map fun i => { cost := fromOn p done last i, order := i :: (bst p (done ++ [i]) (groupAfter p last i)).order })).getD { cost := 0, order := [] } := by
  obtain ⟨n, hn⟩ : ∃ n, p.jobs.length - done.length = n + 1 := ⟨p.jobs.length - done.length - 1, by omega⟩
  have e : ∀ i, p.jobs.length - (done ++ [i]).length = n := fun i => by rw [List.length_append, List.length_singleton]; omega
  unfold bst fromOn
  rw [hn]
  unfold bst
  simp only [e]
  show (least ((readyIn p done (restOf p done)).map _)).getD _ = _
  rw [ready_may]
  simp only [rest_snoc]
structure Valid (p : Plan) (done : List Nat) : Prop where
  nd : done.Nodup
  lt : ∀ x ∈ done, x < p.jobs.length
theorem valid_nil (p : Plan) : Valid p [] := ⟨List.nodup_nil, fun x h => by cases h⟩
theorem mem_may {p : Plan} {done : List Nat} {k i : Nat} (h : i ∈ mayRun p done k) : i ∉ done ∧ ∀ b ∈ (jobAt p i).after_, b ∈ done := by
  unfold mayRun at h
  obtain ⟨_, h⟩ := List.mem_filter.mp h
  rw [Bool.and_eq_true, List.all_eq_true] at h
  refine ⟨fun z => ?_, fun b hb => List.contains_iff_mem.mp (h.2 b hb)⟩
  rw [List.contains_iff_mem.mpr z] at h
  cases h.1
theorem Valid.snoc {p : Plan} {done : List Nat} {i : Nat} (v : Valid p done) (h : i ∈ mayRun p done p.jobs.length) : Valid p (done ++ [i]) := by
  have hn := (mem_may h).1
  refine ⟨List.nodup_append.mpr ⟨v.nd, by simp, fun a ha b hb => ?_⟩, fun x hx => ?_⟩
  · rw [List.mem_singleton] at hb
    subst hb
    exact fun z => hn (z ▸ ha)
  · rcases List.mem_append.mp hx with hx | hx
    · exact v.lt x hx
    · rw [List.mem_singleton] at hx
      rw [hx]
      exact mayRun_lt h
theorem Valid.perm {p : Plan} {a b : List Nat} (h : a.Perm b) (v : Valid p a) : Valid p b := ⟨h.nodup_iff.mp v.nd, fun x hx => v.lt x (h.mem_iff.mpr hx)⟩
theorem Valid.len {p : Plan} {done : List Nat} (v : Valid p done) : done.length ≤ p.jobs.length := nodup_le _ _ v.nd v.lt
theorem first_free {N : Nat} {done : List Nat} : ∀ n, (∃ i, i ≤ n ∧ i < N ∧ i ∉ done) → ∃ i, i < N ∧ i ∉ done ∧ ∀ j, j < i → j ∈ done
  | 0, ⟨i, h1, h2, h3⟩ => by
    have e : i = 0 := by omega
    subst e
    exact ⟨0, h2, h3, fun j hj => absurd hj (Nat.not_lt_zero _)⟩
  | n + 1, ⟨i, h1, h2, h3⟩ => by
    by_cases h : ∃ j, j ≤ n ∧ j < N ∧ j ∉ done
    · exact first_free n h
    · refine ⟨i, h2, h3, fun j hj => ?_⟩
      by_cases hj2 : j ∈ done
      · exact hj2
      · exact absurd ⟨j, by omega, by omega, hj2⟩ h
theorem may_ne {p : Plan} (good : Good p) {done : List Nat} (v : Valid p done) (h : done.length < p.jobs.length) : mayRun p done p.jobs.length ≠ [] := by
  have hex : ∃ i, i < p.jobs.length ∧ i ∉ done := by
    by_cases hall : ∀ i, i < p.jobs.length → i ∈ done
    · have z := List.Nodup.length_le_of_subset (List.nodup_range (n := p.jobs.length)) (fun i hi => hall i (List.mem_range.mp hi))
      rw [List.length_range] at z
      omega
    · simp only [Classical.not_forall] at hall
      obtain ⟨i, h1, h2⟩ := hall
      exact ⟨i, h1, h2⟩
  obtain ⟨i, h1, h2⟩ := hex
  obtain ⟨i, h1, h2, h3⟩ := first_free i ⟨i, Nat.le_refl _, h1, h2⟩
  have hj : p.jobs[i]? = some (jobAt p i) := by
    unfold jobAt
    rw [List.getD_eq_getElem?_getD, List.getElem?_eq_getElem h1] <;> rfl
  have hm : i ∈ mayRun p done p.jobs.length := by
    unfold mayRun
    refine List.mem_filter.mpr ⟨List.mem_range.mpr h1, ?_⟩
    rw [Bool.and_eq_true, List.all_eq_true]
    refine ⟨?_, fun b hb => List.contains_iff_mem.mpr (h3 b ((good.job i _ hj).af b hb))⟩
    cases hc : done.contains i with
    | false => rfl
    | true => exact absurd (List.contains_iff_mem.mp hc) h2
  intro z
  rw [z] at hm
  cases hm
theorem may_sorted (p : Plan) (done : List Nat) (k : Nat) : (mayRun p done k).Pairwise (· < ·) := List.Pairwise.filter _ List.pairwise_lt_range
theorem may_len (p : Plan) (done : List Nat) (k : Nat) : (mayRun p done k).length ≤ k := by
  have z := List.length_filter_le (fun i => !done.contains i && (jobAt p i).after_.all done.contains) (List.range k)
  rw [List.length_range] at z
  exact z
/-- the step of the best order: the first with the least -/
theorem bst_pick {p : Plan} (good : Good p) {done : List Nat} (v : Valid p done) (last : Option Nat) (h : done.length < p.jobs.length) :
    ∃ (i0 x : Nat) (xs : List Nat), mayRun p done p.jobs.length = x :: xs ∧ i0 ∈ x :: xs ∧ bst p done last = { cost := fromOn p done last i0, order := i0 :: (bst p (done ++ [i0]) (groupAfter p last i0)).order } ∧
      minP (pr (fromOn p done last) x) (xs.map (pr (fromOn p done last))) = pr (fromOn p done last) i0 ∧ ∀ i ∈ x :: xs, fromOn p done last i0 ≤ fromOn p done last i := by
  obtain ⟨x, xs, hx⟩ : ∃ x xs, mayRun p done p.jobs.length = x :: xs := by
    cases e : mayRun p done p.jobs.length with
    | nil => exact absurd e (may_ne good v h)
    | cons x xs => exact ⟨x, xs, rfl⟩
  have hs := may_sorted p done p.jobs.length
  rw [hx] at hs
  obtain ⟨i0, h1, h2, h3⟩ := pick_min (fromOn p done last) (fun i => i :: (bst p (done ++ [i]) (groupAfter p last i)).order) x xs hs
  have e := bst_step p last h
  rw [hx, h2] at e
  refine ⟨i0, x, xs, hx, h1, e, h3, fun i hi => ?_⟩
  obtain ⟨z, z1, z2, z3⟩ := least_cost ((x :: xs).map fun k => { cost := fromOn p done last k, order := k :: (bst p (done ++ [k]) (groupAfter p last k)).order }) (by simp)
  rw [h2] at z1
  cases z1
  exact z3 _ (List.mem_map.mpr ⟨i, hi, rfl⟩)
theorem bst_order {p : Plan} (good : Good p) : ∀ (n : Nat) (done : List Nat) (last : Option Nat), Valid p done → done.length + n = p.jobs.length → (bst p done last).order.length = n ∧ expectedFrom p last (bst p done last).order = (bst p done last).cost ∧ ∀ i ∈ (bst p done last).order, i < p.jobs.length
  | 0, done, last, v, h => by
    rw [bst_done p last (by omega)]
    exact ⟨rfl, rfl, fun i hi => by cases hi⟩
  | n + 1, done, last, v, h => by
    obtain ⟨i0, x, xs, hx, hm, e, _, _⟩ := bst_pick good v last (by omega)
    have hm2 : i0 ∈ mayRun p done p.jobs.length := by rw [hx]; exact hm
    obtain ⟨a, b, c⟩ := bst_order good n (done ++ [i0]) (groupAfter p last i0) (v.snoc hm2) (by rw [List.length_append, List.length_singleton]; omega)
    rw [e]
    refine ⟨by rw [List.length_cons, a], ?_, fun i hi => ?_⟩
    · show costFrom p last i0 * 100 ^ ((bst p (done ++ [i0]) (groupAfter p last i0)).order.length + 1) + (100 - (jobAt p i0).chance) * expectedFrom p (groupAfter p last i0) (bst p (done ++ [i0]) (groupAfter p last i0)).order = fromOn p done last i0
      rw [a, b]
      unfold fromOn
      rw [show p.jobs.length - done.length = n + 1 by omega]
    · rcases List.mem_cons.mp hi with rfl | hi
      · exact mayRun_lt hm2
      · exact c i hi
theorem bst_all (p : Plan) : bst p [] none = bestOrder p := by
  have e : restOf p [] = List.range p.jobs.length := by
    unfold restOf
    exact List.filter_eq_self.mpr fun _ _ => rfl
  unfold bst bestOrder
  rw [e] <;> rfl
/-! ### the rule -/
theorem bef_before (p : Plan) (o n : Nat) : bef p o n = before (jobAt p o) (jobAt p n) := by
  unfold bef before
  by_cases h1 : (jobAt p o).chance = 0
  · rw [if_pos h1, h1]
    simp
  · by_cases h2 : (jobAt p n).chance = 0
    · rw [if_neg h1, if_pos h2, h2]
      simp [h1]
    · rw [if_neg h1, if_neg h2]
      simp [h2]
theorem bef_iff (p : Plan) (o n : Nat) : bef p o n = true ↔ (jobAt p o).chance ≠ 0 ∧ ((jobAt p n).chance = 0 ∨ (jobAt p o).cost * (jobAt p n).chance < (jobAt p n).cost * (jobAt p o).chance) := by
  rw [bef_before]
  unfold before
  by_cases h1 : (jobAt p o).chance = 0
  · simp [h1]
  · by_cases h2 : (jobAt p n).chance = 0
    · simp [h1, h2]
    · simp [h1, h2]
theorem bef_irr (p : Plan) (n : Nat) : ¬ bef p n n = true := by
  rw [bef_iff]
  rintro ⟨h1, h2 | h2⟩
  · exact h1 h2
  · exact Nat.lt_irrefl _ h2
theorem bef_asym {p : Plan} {o n : Nat} (h : bef p o n = true) : ¬ bef p n o = true := by
  rw [bef_iff] at h ⊢
  rintro ⟨h3, h4⟩
  obtain ⟨h1, h2⟩ := h
  rcases h2 with h2 | h2
  · exact h3 h2
  · rcases h4 with h4 | h4
    · exact h1 h4
    · omega
theorem bef_neg {p : Plan} {o j i : Nat} (h1 : ¬ bef p o j = true) (h2 : ¬ bef p j i = true) : ¬ bef p o i = true := by
  rw [bef_iff] at *
  rintro ⟨h3, h4⟩
  have a1 : (jobAt p j).chance ≠ 0 := fun z => h1 ⟨h3, .inl z⟩
  have a2 : (jobAt p j).cost * (jobAt p o).chance ≤ (jobAt p o).cost * (jobAt p j).chance := Nat.le_of_not_lt fun z => h1 ⟨h3, .inr z⟩
  have a3 : (jobAt p i).chance ≠ 0 := fun z => h2 ⟨a1, .inl z⟩
  have a4 : (jobAt p i).cost * (jobAt p j).chance ≤ (jobAt p j).cost * (jobAt p i).chance := Nat.le_of_not_lt fun z => h2 ⟨a1, .inr z⟩
  rcases h4 with h4 | h4
  · exact a3 h4
  · generalize (jobAt p o).cost = oc at *
    generalize (jobAt p o).chance = oh at *
    generalize (jobAt p j).cost = jc at *
    generalize (jobAt p j).chance = jh at *
    generalize (jobAt p i).cost = ic at *
    generalize (jobAt p i).chance = ih at *
    have b1 : jc * oh * ih ≤ oc * jh * ih := Nat.mul_le_mul_right ih a2
    have b2 : ic * jh * oh ≤ jc * ih * oh := Nat.mul_le_mul_right oh a4
    have b3 : oc * ih * jh < ic * oh * jh := Nat.mul_lt_mul_of_pos_right h4 (Nat.pos_of_ne_zero a1)
    have c1 : jc * oh * ih = jc * ih * oh := by rw [Nat.mul_assoc, Nat.mul_comm oh, ← Nat.mul_assoc]
    have c2 : oc * jh * ih = oc * ih * jh := by rw [Nat.mul_assoc, Nat.mul_comm jh, ← Nat.mul_assoc]
    have c3 : ic * jh * oh = ic * oh * jh := by rw [Nat.mul_assoc, Nat.mul_comm jh, ← Nat.mul_assoc]
    omega
/-- the specification's first by the rule -/
theorem firstBy_of (p : Plan) : ∀ ms : List Nat, ms ≠ [] → ∃ m pre post, firstBy p ms = some m ∧ ms = pre ++ m :: post ∧ (∀ o ∈ ms, ¬ bef p o m = true) ∧ ∀ x ∈ pre, ∃ o ∈ ms, bef p o x = true
  | [], h => absurd rfl h
  | [i], _ => ⟨i, [], [], rfl, rfl, fun o ho => by rw [List.mem_singleton] at ho; rw [ho]; exact bef_irr p i, fun x hx => by cases hx⟩
  | i :: k :: r, _ => by
    obtain ⟨j, pre, post, e1, e2, e3, e4⟩ := firstBy_of p (k :: r) (by simp)
    have ef : firstBy p (i :: k :: r) = if before (jobAt p j) (jobAt p i) then some j else some i := by
      show (match firstBy p (k :: r) with
        | none => some i
        | some j => if before (jobAt p j) (jobAt p i) then some j else some i) = _
      rw [e1]
    rw [ef, ← bef_before]
    have hj : j ∈ k :: r := by rw [e2]; simp
    by_cases hb : bef p j i = true
    · rw [if_pos hb]
      refine ⟨j, i :: pre, post, rfl, by rw [e2] <;> rfl, fun o ho => ?_, fun x hx => ?_⟩
      · rcases List.mem_cons.mp ho with rfl | ho
        · exact bef_asym hb
        · exact e3 o ho
      · rcases List.mem_cons.mp hx with rfl | hx
        · exact ⟨j, List.mem_cons_of_mem _ hj, hb⟩
        · obtain ⟨o, h1, h2⟩ := e4 x hx
          exact ⟨o, List.mem_cons_of_mem _ h1, h2⟩
    · rw [if_neg hb]
      refine ⟨i, [], k :: r, rfl, rfl, fun o ho => ?_, fun x hx => by cases hx⟩
      rcases List.mem_cons.mp ho with rfl | ho
      · exact bef_irr p _
      · exact bef_neg (e3 o ho) hb
theorem isFst_iff (p : Plan) (ms : List Nat) (n : Nat) : isFst p ms n = true ↔ ∀ o ∈ ms, ¬ bef p o n = true := by
  unfold isFst
  rw [decide_eq_true_iff, List.filter_eq_nil_iff]
  constructor
  · intro h o ho hb
    by_cases e : o = n
    · subst e
      exact bef_irr p o hb
    · have z := h o ho
      rw [hb] at z
      simp [e] at z
  · intro h o ho hb
    rw [Bool.and_eq_true] at hb
    exact h o ho hb.2
theorem firsts (p : Plan) {ms : List Nat} (hne : ms ≠ []) : ∃ m, firstBy p ms = some m ∧ m ∈ ms ∧ (ms.filter fun n => isFst p ms n).take 1 = [m] := by
  obtain ⟨m, pre, post, e1, e2, e3, e4⟩ := firstBy_of p ms hne
  refine ⟨m, e1, by rw [e2]; simp, ?_⟩
  have h1 : pre.filter (fun n => isFst p ms n) = [] := by
    rw [List.filter_eq_nil_iff]
    intro x hx hb
    obtain ⟨o, ho, hb2⟩ := e4 x hx
    exact (isFst_iff p ms x).mp hb o ho hb2
  have h2 : (m :: post).filter (fun n => isFst p ms n) = m :: post.filter (fun n => isFst p ms n) := List.filter_cons_of_pos ((isFst_iff p ms m).mpr e3)
  have h3 : ms.filter (fun n => isFst p ms n) = (pre ++ m :: post).filter (fun n => isFst p ms n) := congrArg (List.filter _) e2
  rw [h3, List.filter_append, h1, h2] <;> rfl
theorem rule_up {p : Plan} (good : Good p) : ∀ k, k ≤ p.jobs.length → (ruleUp p k).length = k ∧ Valid p (ruleUp p k) ∧ simpleOrder p = ruleUp p k ++ simpleFrom p (p.jobs.length - k) (ruleUp p k) (restOf p (ruleUp p k))
  | 0, _ => by
    have e : restOf p [] = List.range p.jobs.length := by
      unfold restOf
      exact List.filter_eq_self.mpr fun _ _ => rfl
    refine ⟨rfl, valid_nil p, ?_⟩
    show simpleOrder p = [] ++ simpleFrom p (p.jobs.length - 0) [] (restOf p [])
    rw [e] <;> rfl
  | k + 1, hk => by
    obtain ⟨h1, h2, h3⟩ := rule_up good k (by omega)
    have hne := may_ne good h2 (by omega)
    obtain ⟨m, f1, f2, f3⟩ := firsts p hne
    have e : ruleUp p (k + 1) = ruleUp p k ++ [m] := by
      show ruleUp p k ++ _ = _
      rw [f3]
    rw [e]
    refine ⟨by rw [List.length_append, h1] <;> rfl, h2.snoc f2, ?_⟩
    rw [h3, show p.jobs.length - k = p.jobs.length - (k + 1) + 1 by omega]
    show ruleUp p k ++ (match firstBy p (readyIn p (ruleUp p k) (restOf p (ruleUp p k))) with
      | none => []
      | some i => i :: simpleFrom p (p.jobs.length - (k + 1)) (ruleUp p k ++ [i]) ((restOf p (ruleUp p k)).filter fun j => j != i)) = _
    rw [ready_may, f1]
    dsimp only
    rw [rest_snoc, List.append_assoc] <;> rfl
theorem rule_all {p : Plan} (good : Good p) : ruleUp p p.jobs.length = simpleOrder p := by
  obtain ⟨_, _, h⟩ := rule_up good p.jobs.length (Nat.le_refl _)
  rw [h, Nat.sub_self]
  show _ = _ ++ []
  rw [List.append_nil]
end
end Tp
end
section
set_option autoImplicit false
set_option linter.unusedVariables false
namespace Tp
section
def numsOf (k : Nat) : Nat := [0, 0, 0, 0, 0, 1, 1, 1, 0, 0].getD k 0
def withL (k : Nat) : Bool := k == 0 || k == 2 || k == 6 || k == 8
theorem shape_of {p : Int} {n k : Nat} (h : PyVatsld.shape p = some (n, k)) : ∃ j : Nat, p = j ∧ j < 10 ∧ n = numsOf j ∧ k = if withL j then 1 else 0 := by
  unfold PyVatsld.shape at h
  by_cases h0 : p = 0
  · subst h0; cases h; exact ⟨0, rfl, by decide, rfl, rfl⟩
  rw [if_neg h0] at h
  by_cases h1 : p = 1
  · subst h1; cases h; exact ⟨1, rfl, by decide, rfl, rfl⟩
  rw [if_neg h1] at h
  by_cases h2 : p = 2
  · subst h2; cases h; exact ⟨2, rfl, by decide, rfl, rfl⟩
  rw [if_neg h2] at h
  by_cases h3 : p = 3
  · subst h3; cases h; exact ⟨3, rfl, by decide, rfl, rfl⟩
  rw [if_neg h3] at h
  by_cases h4 : p = 4
  · subst h4; cases h; exact ⟨4, rfl, by decide, rfl, rfl⟩
  rw [if_neg h4] at h
  by_cases h5 : p = 5
  · subst h5; cases h; exact ⟨5, rfl, by decide, rfl, rfl⟩
  rw [if_neg h5] at h
  by_cases h6 : p = 6
  · subst h6; cases h; exact ⟨6, rfl, by decide, rfl, rfl⟩
  rw [if_neg h6] at h
  by_cases h7 : p = 7
  · subst h7; cases h; exact ⟨7, rfl, by decide, rfl, rfl⟩
  rw [if_neg h7] at h
  by_cases h8 : p = 8
  · subst h8; cases h; exact ⟨8, rfl, by decide, rfl, rfl⟩
  rw [if_neg h8] at h
  by_cases h9 : p = 9
  · subst h9; cases h; exact ⟨9, rfl, by decide, rfl, rfl⟩
  rw [if_neg h9] at h
  cases h
/-- a call by its place, number and list -/
inductive CallFor : Nat → Int → List Int → Vatsld.Call → Prop
  | load (n : Int) (l : List Int) : CallFor 0 n l (.load l)
  | written (n : Int) (l : List Int) : CallFor 1 n l .written
  | expected (n : Int) (l : List Int) : CallFor 2 n l (.expected l)
  | best (n : Int) (l : List Int) : CallFor 3 n l .best
  | simple (n : Int) (l : List Int) : CallFor 4 n l .simple
  | machines (n : Int) (l : List Int) : CallFor 5 n l (.machines n)
  | time (n : Int) (l : List Int) : CallFor 6 n l (.time n l)
  | budget (n : Int) (l : List Int) : CallFor 7 n l (.budget n)
  | cost (n : Int) (l : List Int) : CallFor 8 n l (.cost l)
  | size (n : Int) (l : List Int) : CallFor 9 n l .size
theorem whole_same (c : List (List Int)) : PyVatsld.whole c = c := by
  unfold PyVatsld.whole
  split <;> rfl
theorem call_with {k : Nat} (hk : k < 10) (hw : withL k = true) {num : Int} {l : List Int} {xs : List Int} (hx : xs = if numsOf k = 1 then [num] else []) : ∃ c, VatsldNeutral.callOf [(k : Int) :: xs, l] = some c ∧ CallFor k num l c := by
  subst hx
  rcases k with _ | _ | _ | _ | _ | _ | _ | _ | _ | _ | k
  · exact ⟨_, rfl, .load _ _⟩
  · cases hw
  · exact ⟨_, rfl, .expected _ _⟩
  · cases hw
  · cases hw
  · cases hw
  · exact ⟨_, rfl, .time _ _⟩
  · cases hw
  · exact ⟨_, rfl, .cost _ _⟩
  · cases hw
  · omega
theorem call_bare {k : Nat} (hk : k < 10) (hw : withL k = false) {num : Int} {l : List Int} {xs : List Int} (hx : xs = if numsOf k = 1 then [num] else []) : ∃ c, VatsldNeutral.callOf [(k : Int) :: xs] = some c ∧ CallFor k num l c := by
  subst hx
  rcases k with _ | _ | _ | _ | _ | _ | _ | _ | _ | _ | k
  · cases hw
  · exact ⟨_, rfl, .written _ _⟩
  · cases hw
  · exact ⟨_, rfl, .best _ _⟩
  · exact ⟨_, rfl, .simple _ _⟩
  · exact ⟨_, rfl, .machines _ _⟩
  · cases hw
  · exact ⟨_, rfl, .budget _ _⟩
  · cases hw
  · exact ⟨_, rfl, .size _ _⟩
  · omega
theorem bound_with {k : Nat} (hk : k < 10) (hw : withL k = true) {xs l : List Int} (h : PyInside.call PyVatsld.bound [(k : Int) :: xs, l] = true) : l.length ≤ 5000 := by
  have h : (PyInside.each (PyVatsld.bound k).1 xs && PyInside.lists (PyVatsld.bound k).2 [l]) = true := h
  rw [Bool.and_eq_true] at h
  have h := h.2
  have hb : (PyVatsld.bound k).2 = [(-1000000000000000000, 1000000000000000000, 0, 5000)] := by
    rcases k with _ | _ | _ | _ | _ | _ | _ | _ | _ | _ | k
    all_goals first | rfl | cases hw | omega
  rw [hb] at h
  have h : (decide (0 ≤ l.length) && decide (l.length ≤ 5000) && l.all (PyInside.within (-1000000000000000000) 1000000000000000000) && true) = true := h
  simp only [Bool.and_eq_true, decide_eq_true_eq] at h
  exact h.1.1.2
/-- one call taken off, by places -/
theorem parse_step {ns : List Int} {i f : Nat} {cs : List (List (List Int))} (hi : i < ns.length) (h : PyFlat.calls PyVatsld.shape f (ns.drop i) = some cs) :
    ∃ (k : Nat) (num : Int) (f' : Nat) (c0 : List (List Int)) (cs' : List (List (List Int))), k < 10 ∧ ns[i]? = some (k : Int) ∧ cs = c0 :: cs' ∧ (numsOf k = 1 → ns[i + 1]? = some num) ∧ (numsOf k ≠ 1 → num = 0) ∧
      ((withL k = false ∧ i + 1 + numsOf k ≤ ns.length ∧ PyFlat.calls PyVatsld.shape f' (ns.drop (i + 1 + numsOf k)) = some cs' ∧ c0 = [(k : Int) :: if numsOf k = 1 then [num] else []]) ∨
       (withL k = true ∧ ∃ m : Nat, ns[i + 1 + numsOf k]? = some (m : Int) ∧ i + 1 + numsOf k + 1 + m ≤ ns.length ∧ PyFlat.calls PyVatsld.shape f' (ns.drop (i + 1 + numsOf k + 1 + m)) = some cs' ∧
         c0 = [(k : Int) :: (if numsOf k = 1 then [num] else []), (ns.drop (i + 1 + numsOf k + 1)).take m])) := by
  obtain ⟨pz, hpz⟩ : ∃ pz, ns[i]? = some pz := ⟨_, List.getElem?_eq_getElem hi⟩
  rw [drop_cons hpz] at h
  cases f with
  | zero => cases h
  | succ f =>
    unfold PyFlat.calls at h
    cases hc : PyFlat.call PyVatsld.shape (pz :: ns.drop (i + 1)) with
    | none => rw [hc] at h; cases h
    | some ct =>
      obtain ⟨c, t⟩ := ct
      rw [hc] at h
      dsimp only at h
      cases hr : PyFlat.calls PyVatsld.shape f t with
      | none => rw [hr] at h; cases h
      | some cs' =>
        rw [hr] at h
        cases h
        unfold PyFlat.call at hc
        dsimp only at hc
        cases hs : PyVatsld.shape pz with
        | none => rw [hs] at hc; cases hc
        | some nk =>
          obtain ⟨n, kr⟩ := nk
          rw [hs] at hc
          dsimp only at hc
          obtain ⟨k, rfl, hk, rfl, rfl⟩ := shape_of hs
          by_cases hlen : (ns.drop (i + 1)).length < numsOf k
          · rw [if_pos hlen] at hc; cases hc
          rw [if_neg hlen, List.length_drop] at *
          have hn1 : numsOf k = 0 ∨ numsOf k = 1 := by
            rcases k with _ | _ | _ | _ | _ | _ | _ | _ | _ | _ | k
            all_goals first | exact .inl rfl | exact .inr rfl | omega
          have htk : ∃ num : Int, (numsOf k = 1 → ns[i + 1]? = some num) ∧ (numsOf k ≠ 1 → num = 0) ∧ (ns.drop (i + 1)).take (numsOf k) = if numsOf k = 1 then [num] else [] := by
            rcases hn1 with e | e
            · exact ⟨0, fun z => by omega, fun _ => rfl, by rw [e]; rfl⟩
            · obtain ⟨x, hx⟩ : ∃ x, ns[i + 1]? = some x := ⟨_, List.getElem?_eq_getElem (by omega)⟩
              refine ⟨x, fun _ => hx, fun z => absurd e z, ?_⟩
              rw [drop_cons hx, e] <;> rfl
          obtain ⟨num, hnum1, hnum0, htake⟩ := htk
          rw [List.drop_drop] at hc
          cases hw : withL k with
          | false =>
            rw [hw] at hc
            have hc : some (((k : Int) :: (ns.drop (i + 1)).take (numsOf k)) :: [], ns.drop (i + 1 + numsOf k)) = some (c, t) := hc
            cases hc
            exact ⟨k, num, f, _, cs', hk, hpz, rfl, hnum1, hnum0, .inl ⟨hw, by omega, hr, by rw [htake]⟩⟩
          | true =>
            rw [hw] at hc
            by_cases hend : i + 1 + numsOf k < ns.length
            · obtain ⟨mz, hmz⟩ : ∃ mz, ns[i + 1 + numsOf k]? = some mz := ⟨_, List.getElem?_eq_getElem hend⟩
              rw [drop_cons hmz] at hc
              simp only [if_true, PyFlat.rows, PyFlat.row] at hc
              by_cases hm : 0 ≤ mz ∧ mz.toNat ≤ (ns.drop (i + 1 + numsOf k + 1)).length
              · rw [if_pos hm] at hc
                have hc : some (((k : Int) :: (ns.drop (i + 1)).take (numsOf k)) :: [(ns.drop (i + 1 + numsOf k + 1)).take mz.toNat], (ns.drop (i + 1 + numsOf k + 1)).drop mz.toNat) = some (c, t) := hc
                cases hc
                rw [List.drop_drop] at hr
                have hml := hm.2
                rw [List.length_drop] at hml
                exact ⟨k, num, f, _, cs', hk, hpz, rfl, hnum1, hnum0, .inr ⟨hw, mz.toNat, by rw [hmz, Int.toNat_of_nonneg hm.1], by omega, hr, by rw [htake]⟩⟩
              · rw [if_neg hm] at hc
                cases hc
            · rw [drop_ge (by omega)] at hc
              cases hc
theorem calls_nil {ns : List Int} {i f : Nat} {cs : List (List (List Int))} (hi : ns.length ≤ i) (h : PyFlat.calls PyVatsld.shape f (ns.drop i) = some cs) : cs = [] := by
  rw [drop_ge hi] at h
  cases f <;> cases h <;> rfl
/-- what is left to be answered -/
def left (p : Vatsld.Plan) (cs : List (List (List Int))) : List Int := PyFlat.told (PyFlat.played VatsldNeutral.step p cs)
theorem left_nil (p : Vatsld.Plan) : left p [] = [] := rfl
theorem left_cons (p : Vatsld.Plan) {c0 : List (List Int)} {cs : List (List (List Int))} {c : Vatsld.Call} (h : VatsldNeutral.callOf c0 = some c) : left p (c0 :: cs) = ((Vatsld.step p c).2.length : Int) :: (Vatsld.step p c).2 ++ left (Vatsld.step p c).1 cs := by
  have e : VatsldNeutral.step p c0 = ((Vatsld.step p c).1, (Vatsld.step p c).2) := by
    unfold VatsldNeutral.step
    rw [h] <;> rfl
  unfold left PyFlat.told
  show (PyFlat.played VatsldNeutral.step p (c0 :: cs)).flatMap _ = _
  rw [PyFlat.played, e]
  rfl
theorem answers_left {ns : List Int} (h : PyVatsld.answers_asked ns = true) : ∃ cs, PyFlat.calls PyVatsld.shape ns.length (ns.drop 0) = some cs ∧ PyVatsld.answers ns = left Vatsld.emptyPlan cs ∧ (∀ c ∈ cs, PyInside.call PyVatsld.bound c = true) ∧ (PyVatsld.answers ns).length ≤ 10000000 := by
  unfold PyVatsld.answers_asked at h
  rw [List.drop_zero]
  cases hc : PyFlat.calls PyVatsld.shape ns.length ns with
  | none => rw [hc] at h; cases h
  | some raw =>
    rw [hc] at h
    dsimp only at h
    simp only [Bool.and_eq_true] at h
    obtain ⟨⟨⟨⟨_, _⟩, hb⟩, _⟩, hs⟩ := h
    refine ⟨raw, rfl, ?_, fun c hcm => List.all_eq_true.mp hb c hcm, of_decide_eq_true hs⟩
    unfold PyVatsld.answers PyVatsld.calls
    rw [hc]
    have e : raw.map PyVatsld.whole = raw := by
      rw [List.map_congr_left (g := id) fun c _ => whole_same c, List.map_id]
    show PyFlat.told (PyFlat.played VatsldNeutral.step VatsldNeutral.start (raw.map PyVatsld.whole)) = _
    rw [e]
    rfl
end
end Tp
end
section
set_option autoImplicit false
set_option linter.unusedVariables false
namespace Tp
open PySem
section
def gk : Nat → Nat → Nat
  | 0, y => y
  | n + 1, y => gk n (5 * y + 1)
theorem gk_add : ∀ (a b y : Nat), gk (a + b) y = gk b (gk a y)
  | 0, b, y => by rw [Nat.zero_add] <;> rfl
  | a + 1, b, y => by
    rw [Nat.succ_add]
    show gk (a + b) (5 * y + 1) = gk b (gk a (5 * y + 1))
    exact gk_add a b _
theorem gk_pow : ∀ m : Nat, ∃ k c : Nat, ∀ y, gk (2 ^ m) y = (1 + 2 ^ (m + 2) * k) * y + 2 ^ m * (2 * c + 1)
  | 0 => ⟨1, 0, fun y => by
    show 5 * y + 1 = _
    omega⟩
  | m + 1 => by
    obtain ⟨k, c, h⟩ := gk_pow m
    refine ⟨k + 2 ^ (m + 1) * k * k, c + (2 * c + 1) * 2 ^ m * k, fun y => ?_⟩
    have e : (2 : Nat) ^ (m + 1) = 2 ^ m + 2 ^ m := by rw [Nat.pow_succ]; omega
    rw [e, gk_add, h, h]
    generalize hp : (2 : Nat) ^ m = p
    have e1 : (2 : Nat) ^ (m + 2) = 4 * p := by rw [Nat.pow_add, hp]; omega
    have e2 : (2 : Nat) ^ (m + 1 + 2) = 8 * p := by rw [Nat.pow_add, Nat.pow_add, hp]; omega
    rw [e1, e2]
    grind
theorem gk_mult {m : Nat} : ∀ (e y : Nat), ∃ r, gk (2 ^ m * e) y = y + 2 ^ m * r ∧ r % 2 = e % 2
  | 0, y => ⟨0, rfl, rfl⟩
  | e + 1, y => by
    obtain ⟨k, c, h⟩ := gk_pow m
    obtain ⟨r, h1, h2⟩ := gk_mult (m := m) e (gk (2 ^ m) y)
    refine ⟨r + (2 * (2 * k * y + c) + 1), ?_, by omega⟩
    rw [Nat.mul_succ, Nat.add_comm, gk_add, h1, h]
    have e1 : (2 : Nat) ^ (m + 2) = 4 * 2 ^ m := by rw [Nat.pow_add]; omega
    rw [e1]
    generalize (2 : Nat) ^ m = p
    grind
theorem gk_period : ∀ (m d y : Nat), gk d y % 2 ^ m = y % 2 ^ m → 2 ^ m ∣ d
  | 0, d, y, _ => Nat.one_dvd _
  | m + 1, d, y, h => by
    have e : (2 : Nat) ^ (m + 1) = 2 ^ m * 2 := Nat.pow_succ ..
    have hm : gk d y % 2 ^ m = y % 2 ^ m := by
      have : gk d y % 2 ^ (m + 1) % 2 ^ m = y % 2 ^ (m + 1) % 2 ^ m := by rw [h]
      rw [Nat.mod_mod_of_dvd _ ⟨2, e⟩, Nat.mod_mod_of_dvd _ ⟨2, e⟩] at this
      exact this
    obtain ⟨q, rfl⟩ := gk_period m d y hm
    obtain ⟨r, h1, h2⟩ := gk_mult (m := m) q y
    rw [h1, e] at h
    have hp : 0 < 2 ^ m := Nat.pow_pos (by decide)
    generalize (2 : Nat) ^ m = p at *
    have hr : r % 2 = 0 := by
      have h3 : (y + p * r) % (p * 2) = y % (p * 2) := h
      have h4 : (p * 2) ∣ (y + p * r - y) := by
        have := Nat.sub_mod_eq_zero_of_mod_eq h3
        exact Nat.dvd_of_mod_eq_zero this
      rw [Nat.add_sub_cancel_left] at h4
      have h5 : 2 ∣ r := Nat.dvd_of_mul_dvd_mul_left hp h4
      omega
    rw [e]
    have hq : 2 ∣ q := by omega
    exact Nat.mul_dvd_mul_left p hq
/-- the table's own steps, once the hash is used up -/
def fk (M : Nat) : Nat → Nat → Nat
  | 0, y => y
  | n + 1, y => fk M n ((y * 5 + 1) % M)
theorem fk_gk {M : Nat} : ∀ (n y : Nat), y < M → fk M n y = gk n y % M
  | 0, y, h => (Nat.mod_eq_of_lt h).symm
  | n + 1, y, h => by
    have hM : 0 < M := by omega
    show fk M n ((y * 5 + 1) % M) = gk n (5 * y + 1) % M
    rw [fk_gk n _ (Nat.mod_lt _ hM), Nat.mul_comm y 5]
    have : ∀ (n y z : Nat), y % M = z % M → gk n y % M = gk n z % M := fun n => by
      induction n with
      | zero => exact fun y z h => h
      | succ n ih =>
        intro y z h
        refine ih _ _ ?_
        rw [Nat.add_mod, Nat.mul_mod, h, ← Nat.mul_mod, ← Nat.add_mod]
    exact this n _ _ (Nat.mod_mod _ _)
theorem fk_ne {m : Nat} {y a b : Nat} (hy : y < 2 ^ m) (hab : a < b) (hb : b < 2 ^ m) : fk (2 ^ m) a y ≠ fk (2 ^ m) b y := by
  rw [fk_gk a y hy, fk_gk b y hy]
  intro h
  have e : b = a + (b - a) := by omega
  rw [e, gk_add] at h
  have z := gk_period m (b - a) (gk a y) h.symm
  have := Nat.le_of_dvd (by omega) z
  omega
theorem fk_lt {M : Nat} : ∀ (n y : Nat), y < M → fk M n y < M
  | 0, y, h => h
  | n + 1, y, h => fk_lt n _ (Nat.mod_lt _ (by omega))
/-- among so many slots one is not in a shorter list -/
theorem fk_out {m : Nat} {y : Nat} (hy : y < 2 ^ m) (l : List Nat) (hl : l.length < 2 ^ m) : ∃ r, r ≤ l.length ∧ fk (2 ^ m) r y ∉ l := by
  by_cases h : ∃ r, r ≤ l.length ∧ fk (2 ^ m) r y ∉ l
  · exact h
  · exfalso
    have hall : ∀ r, r ≤ l.length → fk (2 ^ m) r y ∈ l := fun r hr => by
      by_cases z : fk (2 ^ m) r y ∈ l
      · exact z
      · exact absurd ⟨r, hr, z⟩ h
    have nd : ((List.range (l.length + 1)).map fun r => fk (2 ^ m) r y).Nodup := by
      rw [List.Nodup, List.pairwise_map]
      refine List.Pairwise.imp_of_mem ?_ (List.pairwise_lt_range (n := l.length + 1))
      intro a b ha hb hab
      exact fk_ne hy hab (by have := List.mem_range.mp hb; omega)
    have sub : ((List.range (l.length + 1)).map fun r => fk (2 ^ m) r y) ⊆ l := fun x hx => by
      obtain ⟨r, hr, rfl⟩ := List.mem_map.mp hx
      exact hall r (by have := List.mem_range.mp hr; omega)
    have z := List.Nodup.length_le_of_subset nd sub
    rw [List.length_map, List.length_range] at z
    omega
/-! ### turns -/
/-- the turns' starts -/
def lk (M : Nat) : Nat → Nat × Nat → Nat × Nat
  | 0, s => s
  | n + 1, s => lk M n (SetTable.leap (M - 1) s.1 s.2)
theorem lk_add {M : Nat} : ∀ (a b : Nat) (s : Nat × Nat), lk M (a + b) s = lk M b (lk M a s)
  | 0, b, s => by rw [Nat.zero_add] <;> rfl
  | a + 1, b, s => by
    rw [Nat.succ_add]
    exact lk_add a b _
theorem lk_snd {M : Nat} : ∀ (n : Nat) (s : Nat × Nat), (lk M n s).2 = s.2 / 32 ^ n
  | 0, s => by simp [lk]
  | n + 1, s => by
    show (lk M n (SetTable.leap (M - 1) s.1 s.2)).2 = _
    rw [lk_snd n]
    show s.2 / 32 / 32 ^ n = _
    rw [Nat.div_div_eq_div_mul, Nat.pow_succ, Nat.mul_comm]
theorem lk_zero {M : Nat} (hM : 0 < M) : ∀ (n i : Nat), lk M n (i, 0) = (fk M n i, 0)
  | 0, i => rfl
  | n + 1, i => by
    show lk M n ((i * 5 + 1 + 0 / 32) % (M - 1 + 1), 0 / 32) = _
    rw [show M - 1 + 1 = M by omega, show 0 / 32 = 0 from rfl, Nat.add_zero]
    exact lk_zero hM n _
theorem lk_lt {M : Nat} (hM : 0 < M) : ∀ (n : Nat) (s : Nat × Nat), s.1 < M → (lk M n s).1 < M
  | 0, s, h => h
  | n + 1, s, h => lk_lt hM n _ (by
    show (s.1 * 5 + 1 + s.2 / 32) % (M - 1 + 1) < M
    rw [show M - 1 + 1 = M by omega]
    exact Nat.mod_lt _ hM)
/-- a turn soon starts at a slot that a list doesn't hold -/
theorem turn_out {m : Nat} {s : Nat × Nat} (h1 : s.1 < 2 ^ m) (h2 : s.2 < 2 ^ 64) (l : List Nat) (hl : l.length < 2 ^ m) : ∃ r, r ≤ 13 + l.length ∧ (lk (2 ^ m) r s).1 ∉ l := by
  have hM : 0 < 2 ^ m := Nat.pow_pos (by decide)
  have e2 : (lk (2 ^ m) 13 s).2 = 0 := by
    rw [lk_snd]
    exact Nat.div_eq_of_lt (Nat.lt_of_lt_of_le h2 (by decide))
  have e1 := lk_lt hM 13 s h1
  obtain ⟨r, hr, hn⟩ := fk_out e1 l hl
  refine ⟨13 + r, by omega, ?_⟩
  rw [lk_add, show lk (2 ^ m) 13 s = ((lk (2 ^ m) 13 s).1, 0) from Prod.ext rfl e2, lk_zero hM]
  exact hn
end
section
def adv (t : SetTable) : Nat → SetTable.Probe → SetTable.Probe
  | 0, p => p
  | n + 1, p => adv t n (t.advance p)
theorem adv_add (t : SetTable) : ∀ (a b : Nat) (p : SetTable.Probe), adv t (a + b) p = adv t b (adv t a p)
  | 0, b, p => by rw [Nat.zero_add] <;> rfl
  | a + 1, b, p => by
    rw [Nat.succ_add]
    exact adv_add t a b _
/-- a turn's first probe -/
def tstart (mask : Nat) (s : Nat × Nat) : SetTable.Probe := { j := s.1, more := SetTable.runEnd mask s.1 - s.1, i := s.1, perturb := s.2, dummy := none }
theorem adv_turn (t : SetTable) : ∀ (q : Nat) (p : SetTable.Probe), p.more = q → p.dummy = none → adv t (q + 1) p = tstart t.mask (SetTable.leap t.mask p.i p.perturb)
  | 0, p, h, hd => by
    obtain ⟨j, more, i, perturb, dummy⟩ := p
    cases h
    cases hd
    rfl
  | q + 1, p, h, hd => by
    have e : t.advance p = { p with j := p.j + 1, more := p.more - 1 } := by
      unfold SetTable.advance
      rw [if_pos (by omega)]
    show adv t (q + 1) (t.advance p) = _
    rw [e]
    exact adv_turn t q _ (by show p.more - 1 = q; omega) hd
theorem runEnd_le (mask i : Nat) : SetTable.runEnd mask i - i ≤ 9 := by
  unfold SetTable.runEnd
  split <;> omega
theorem adv_turns {t : SetTable} {M : Nat} (hM : t.mask + 1 = M) : ∀ (r : Nat) (s : Nat × Nat), ∃ n, n ≤ 10 * r ∧ adv t n (tstart t.mask s) = tstart t.mask (lk M r s)
  | 0, s => ⟨0, Nat.le_refl _, rfl⟩
  | r + 1, s => by
    have e := adv_turn t _ (tstart t.mask s) rfl rfl
    obtain ⟨n, h1, h2⟩ := adv_turns hM r (SetTable.leap t.mask s.1 s.2)
    refine ⟨(tstart t.mask s).more + 1 + n, ?_, ?_⟩
    · have z := runEnd_le t.mask s.1
      show SetTable.runEnd t.mask s.1 - s.1 + 1 + n ≤ _
      omega
    · rw [adv_add, e]
      show adv t n (tstart t.mask (SetTable.leap t.mask s.1 s.2)) = tstart t.mask (lk M r (SetTable.leap (M - 1) s.1 s.2))
      rw [h2, ← hM] <;> rfl
structure POk (p : SetTable.Probe) : Prop where
  pert : p.perturb < 2 ^ 64
  more : p.more ≤ 9
  dummy : p.dummy = none
theorem POk.adv1 {t : SetTable} {p : SetTable.Probe} (h : POk p) : POk (t.advance p) := by
  obtain ⟨h1, h2, h3⟩ := h
  unfold SetTable.advance
  split
  · exact ⟨h1, by show p.more - 1 ≤ 9; omega, h3⟩
  · exact ⟨Nat.lt_of_le_of_lt (Nat.div_le_self _ _) h1, runEnd_le _ _, h3⟩
theorem POk.adv {t : SetTable} : ∀ (n : Nat) {p : SetTable.Probe}, POk p → POk (Tp.adv t n p)
  | 0, p, h => h
  | n + 1, p, h => POk.adv n h.adv1
theorem start_ok (t : SetTable) (h : Int) : POk (t.probeStart h) := by
  refine ⟨?_, runEnd_le _ _, rfl⟩
  show (h % (2 ^ 64 : Int)).toNat < 2 ^ 64
  have := Int.emod_lt_of_pos h (show (0 : Int) < 2 ^ 64 by decide)
  have := Int.emod_nonneg h (show (2 ^ 64 : Int) ≠ 0 by decide)
  omega
theorem slot_empty {t : SetTable} (hd : t.dummies = #[]) {j : Nat} (h : j ∉ t.place.toList) : t.slot j = .empty := by
  unfold SetTable.slot
  dsimp only
  have h1 : (t.place[SetTable.below t.place j]? == some j) = false := by
    rw [beq_eq_false_iff_ne]
    intro z
    refine h ?_
    rw [← Array.getElem?_toList] at z
    exact List.mem_of_getElem? z
  have h2 : SetTable.has t.dummies j = false := by
    rw [hd]
    rfl
  rw [h1, h2] <;> rfl
theorem slot_nodummy {t : SetTable} (hd : t.dummies = #[]) (j : Nat) : t.slot j ≠ .dummy := by
  unfold SetTable.slot
  dsimp only
  have h2 : SetTable.has t.dummies j = false := by
    rw [hd]
    rfl
  rw [h2]
  split
  · exact fun z => by cases z
  · exact fun z => by cases z
/-- an empty slot is met in few steps -/
theorem meet_empty {t : SetTable} {m : Nat} (hM : t.mask + 1 = 2 ^ m) (hd : t.dummies = #[]) (hf : t.place.size < t.mask) {p : SetTable.Probe} (hp : POk p) : ∃ n, n ≤ 10 * (14 + t.place.size) ∧ t.slot (adv t n p).j = .empty := by
  have hMp : 0 < 2 ^ m := Nat.pow_pos (by decide)
  have hlt : (SetTable.leap t.mask p.i p.perturb).1 < 2 ^ m := by
    show _ % (t.mask + 1) < _
    rw [hM]
    exact Nat.mod_lt _ hMp
  have hlt2 : (SetTable.leap t.mask p.i p.perturb).2 < 2 ^ 64 := Nat.lt_of_le_of_lt (Nat.div_le_self _ _) hp.pert
  obtain ⟨r, hr, hn⟩ := turn_out hlt hlt2 t.place.toList (by rw [Array.length_toList]; omega)
  rw [Array.length_toList] at hr
  obtain ⟨n, h1, h2⟩ := adv_turns hM r (SetTable.leap t.mask p.i p.perturb)
  refine ⟨p.more + 1 + n, ?_, ?_⟩
  · have := hp.more
    omega
  · rw [adv_add, adv_turn t _ p rfl hp.dummy]
    have e : (SetTable.leap t.mask p.i p.perturb) = ((SetTable.leap t.mask p.i p.perturb).1, (SetTable.leap t.mask p.i p.perturb).2) := rfl
    rw [h2]
    exact slot_empty hd hn
theorem go_met {t : SetTable} (hd : t.dummies = #[]) (hashAt : Nat → Int) (h : Int) : ∀ (n fuel : Nat) (p : SetTable.Probe), p.dummy = none → n < fuel → t.slot (adv t n p).j = .empty →
    (∃ j, SetTable.probe.go t hashAt h fuel p = some (.empty j none)) ∨ ∃ k i, k < n ∧ t.slot (adv t k p).j = .live i ∧ hashAt i = h ∧ SetTable.probe.go t hashAt h fuel p = some (.candidate (adv t k p).j i (adv t (k + 1) p))
  | n, 0, p, _, hn, _ => absurd hn (Nat.not_lt_zero _)
  | 0, fuel + 1, p, hp, _, he => by
    have he : t.slot p.j = .empty := he
    refine .inl ⟨p.j, ?_⟩
    unfold SetTable.probe.go
    rw [he, hp]
  | n + 1, fuel + 1, p, hp, hn, he => by
    unfold SetTable.probe.go
    have hpa : (t.advance p).dummy = none := by
      unfold SetTable.advance
      split <;> exact hp
    have ih := go_met hd hashAt h n fuel (t.advance p) hpa (by omega) he
    cases hs : t.slot p.j with
    | empty =>
      rw [hp]
      exact .inl ⟨p.j, rfl⟩
    | dummy => exact absurd hs (slot_nodummy hd p.j)
    | live i =>
      dsimp only
      by_cases hq : hashAt i = h
      · rw [if_pos (by simpa using hq)]
        exact .inr ⟨0, i, Nat.succ_pos _, hs, hq, rfl⟩
      · rw [if_neg (by simpa using hq)]
        rcases ih with ⟨j, e⟩ | ⟨k, i', h1, h2, h3, h4⟩
        · exact .inl ⟨j, e⟩
        · exact .inr ⟨k + 1, i', by omega, h2, h3, h4⟩
/-- a free slot -/
theorem free_slot {t : SetTable} {m : Nat} (hM : t.mask + 1 = 2 ^ m) (hd : t.dummies = #[]) (hf : t.place.size < t.mask) (h : Int) : ∃ j, t.freeSlot h = some (j, false) := by
  obtain ⟨n, h1, h2⟩ := meet_empty hM hd hf (start_ok t h)
  have g := go_met hd (fun _ => h + 1) h n (10 * SetTable.turns t.mask) (t.probeStart h) rfl (by unfold SetTable.turns; omega) h2
  unfold SetTable.freeSlot SetTable.probe
  rcases g with ⟨j, e⟩ | ⟨k, i, _, _, hq, _⟩
  · rw [e]
    exact ⟨j, rfl⟩
  · have hq : h + 1 = h := hq
    omega
/-! ### a clean lay -/
theorem free_some {owner : Array (Option Nat)} {mask : Nat} : ∀ (r fuel i pert : Nat), r < fuel → owner[(lk (mask + 1) r (i, pert)).1]? = some none → ∃ j, SetTable.layClean.free mask owner fuel i pert = some j ∧ owner[j]? = some none
  | r, 0, i, pert, h, _ => absurd h (Nat.not_lt_zero _)
  | r, fuel + 1, i, pert, h, ho => by
    unfold SetTable.layClean.free
    cases hf : (List.range (SetTable.runEnd mask i + 1 - i)).find? fun k => (owner.getD (i + k) (some 0)).isNone with
    | some k =>
      refine ⟨i + k, rfl, ?_⟩
      have z := List.find?_some hf
      rw [Array.getD_eq_getD_getElem?] at z
      cases e : owner[i + k]? with
      | none =>
        rw [e] at z
        cases z
      | some v =>
        rw [e] at z
        cases v with
        | none => rfl
        | some x => cases z
    | none =>
      cases r with
      | zero =>
        exfalso
        have ho : owner[i]? = some none := ho
        rw [List.find?_eq_none] at hf
        have hre : i ≤ SetTable.runEnd mask i := by
          unfold SetTable.runEnd
          split <;> omega
        have z := hf 0 (List.mem_range.mpr (by omega))
        rw [Nat.add_zero, Array.getD_eq_getD_getElem?, ho] at z
        exact z rfl
      | succ r => exact free_some r fuel _ _ (by omega) ho
theorem filterMap_set {α : Type} : ∀ (l : List (Option α)) (j : Nat) (x : α), l[j]? = some none → ((l.set j (some x)).filterMap id).Perm (x :: l.filterMap id)
  | [], j, x, h => by cases h
  | a :: l, 0, x, h => by
    cases h
    exact List.Perm.refl _
  | a :: l, j + 1, x, h => by
    have ih := filterMap_set l j x h
    cases a with
    | none => exact ih
    | some y => exact (ih.cons y).trans (List.Perm.swap x y _)
structure OwnOk (mask : Nat) (owner : Array (Option Nat)) (k : Nat) : Prop where
  size : owner.size = mask + 1
  perm : (owner.toList.filterMap id).Perm (List.range k)
theorem own_list (owner : Array (Option Nat)) : owner.toList = (List.range owner.size).map fun j => owner.getD j none := by
  apply List.ext_getElem?
  intro i
  rw [List.getElem?_map, Array.getElem?_toList]
  by_cases h : i < owner.size
  · rw [List.getElem?_range h]
    show _ = some (owner.getD i none)
    rw [Array.getD_eq_getD_getElem?, Array.getElem?_eq_getElem h] <;> rfl
  · rw [Array.getElem?_eq_none (by omega), List.getElem?_eq_none (by rw [List.length_range]; omega)] <;> rfl
theorem own_step {mask m k : Nat} {owner : Array (Option Nat)} (hm : mask + 1 = 2 ^ m) (o : OwnOk mask owner k) (hk : k ≤ mask) (h : Int) : ∃ j, SetTable.layClean.free mask owner (SetTable.turns mask) (SetTable.bits h % (mask + 1)) (SetTable.bits h) = some j ∧ OwnOk mask (owner.setIfInBounds j (some k)) (k + 1) := by
  obtain ⟨hs, hp⟩ := o
  have hMp : 0 < 2 ^ m := Nat.pow_pos (by decide)
  obtain ⟨l, hl⟩ : ∃ l, l = (List.range owner.size).filter fun j => (owner.getD j none).isSome := ⟨_, rfl⟩
  have hll : l.length = k := by
    have z := hp.length_eq
    rw [List.length_range, own_list, List.filterMap_map, List.length_filterMap_eq_countP, List.countP_eq_length_filter] at z
    rw [hl, ← z] <;> rfl
  have hb : SetTable.bits h < 2 ^ 64 := (start_ok { mask := 0, place := #[], dummies := #[], finger := 0, led := true, moves := 0, plain := true } h).pert
  obtain ⟨r, hr, hn⟩ := turn_out (m := m) (s := (SetTable.bits h % (mask + 1), SetTable.bits h)) (by rw [hm]; exact Nat.mod_lt _ hMp) hb l (by omega)
  have hlt := lk_lt hMp r (SetTable.bits h % (mask + 1), SetTable.bits h) (by rw [hm]; exact Nat.mod_lt _ hMp)
  have hem : owner[(lk (mask + 1) r (SetTable.bits h % (mask + 1), SetTable.bits h)).1]? = some none := by
    rw [hm] at hn hlt ⊢
    generalize (lk (2 ^ m) r (SetTable.bits h % 2 ^ m, SetTable.bits h)).1 = j at hn hlt
    have hj : j < owner.size := by omega
    rw [Array.getElem?_eq_getElem hj]
    rw [hl, List.mem_filter, not_and] at hn
    have z := hn (List.mem_range.mpr hj)
    rw [Array.getD_eq_getD_getElem?, Array.getElem?_eq_getElem hj] at z
    cases e : owner[j] with
    | none => rfl
    | some x =>
      rw [e] at z
      exact absurd rfl z
  obtain ⟨j, e1, e2⟩ := free_some r (SetTable.turns mask) _ _ (by unfold SetTable.turns; omega) hem
  refine ⟨j, e1, ⟨by rw [Array.size_setIfInBounds]; exact hs, ?_⟩⟩
  rw [Array.toList_setIfInBounds]
  have e3 : owner.toList[j]? = some none := by
    rw [Array.getElem?_toList]
    exact e2
  refine (filterMap_set _ j k e3).trans ?_
  rw [List.range_succ]
  exact (hp.cons k).trans (List.perm_append_singleton k _).symm
/-- one step of the lay -/
def layStep (mask : Nat) (acc : Option (Array (Option Nat) × Nat)) (h : Int) : Option (Array (Option Nat) × Nat) := do
  let (owner, k) ← acc
  let j ← SetTable.layClean.free mask owner (SetTable.turns mask) (SetTable.bits h % (mask + 1)) (SetTable.bits h)
  pure (owner.setIfInBounds j (some k), k + 1)
theorem lay_list {mask m : Nat} (hm : mask + 1 = 2 ^ m) : ∀ (l : List Int) (owner : Array (Option Nat)) (k : Nat), OwnOk mask owner k → k + l.length ≤ mask + 1 → ∃ owner', l.foldl (layStep mask) (some (owner, k)) = some (owner', k + l.length) ∧ OwnOk mask owner' (k + l.length)
  | [], owner, k, o, _ => ⟨owner, rfl, o⟩
  | h :: l, owner, k, o, hk => by
    rw [List.length_cons] at hk
    obtain ⟨j, e1, e2⟩ := own_step hm o (by omega) h
    obtain ⟨owner', e3, e4⟩ := lay_list hm l _ (k + 1) e2 (by omega)
    have es : layStep mask (some (owner, k)) h = some (owner.setIfInBounds j (some k), k + 1) := by
      unfold layStep
      show (SetTable.layClean.free mask owner (SetTable.turns mask) (SetTable.bits h % (mask + 1)) (SetTable.bits h)).bind _ = _
      rw [e1] <;> rfl
    refine ⟨owner', ?_, ?_⟩
    · rw [List.foldl_cons, es, e3, List.length_cons, show k + 1 + l.length = k + (l.length + 1) by omega]
    · rw [List.length_cons, show k + (l.length + 1) = k + 1 + l.length by omega]
      exact e4
theorem laid_ok {mask m finger moves : Nat} {led plain : Bool} {hashes : Array Int} (hm : mask + 1 = 2 ^ m) (hn : hashes.size ≤ mask + 1) :
    ∃ t' order, SetTable.laid mask finger moves led plain hashes = some (t', order) ∧ t'.mask = mask ∧ t'.dummies = #[] ∧ t'.place.size = hashes.size ∧ order.toList.Perm (List.range hashes.size) := by
  have o0 : OwnOk mask (Array.replicate (mask + 1) none) 0 := by
    refine ⟨Array.size_replicate, ?_⟩
    rw [Array.toList_replicate]
    have : ∀ n, (List.replicate n (none : Option Nat)).filterMap id = [] := fun n => by
      induction n with
      | zero => rfl
      | succ n ih => exact ih
    rw [this] <;> exact List.Perm.refl _
  obtain ⟨owner, e1, e2⟩ := lay_list hm hashes.toList _ 0 o0 (by rw [Array.length_toList]; omega)
  rw [Array.length_toList, Nat.zero_add] at e1 e2
  have e3 : SetTable.layClean mask hashes = some owner := by
    unfold SetTable.layClean
    rw [← Array.foldl_toList]
    show (hashes.toList.foldl (layStep mask) (some (Array.replicate (mask + 1) none, 0))).map _ = _
    rw [e1] <;> rfl
  have e4 : (((List.range (mask + 1)).filterMap fun j => (owner.getD j none).map (j, ·)).map (·.2)) = owner.toList.filterMap id := by
    rw [own_list, e2.size, List.filterMap_map, List.map_filterMap]
    congr 1
    funext j
    show ((owner.getD j none).map (j, ·)).map (·.2) = owner.getD j none
    cases owner.getD j none <;> rfl
  refine ⟨_, _, by unfold SetTable.laid; rw [e3]; rfl, rfl, rfl, ?_, ?_⟩
  · have z := congrArg List.length e4
    rw [List.length_map, e2.perm.length_eq, List.length_range] at z
    show (((List.range (mask + 1)).filterMap fun j => (owner.getD j none).map (j, ·)).map (·.1)).toArray.size = _
    rw [List.size_toArray, List.length_map, z]
  · show (((List.range (mask + 1)).filterMap fun j => (owner.getD j none).map (j, ·)).map (·.2)).toArray.toList.Perm _
    rw [List.toList_toArray, e4]
    exact e2.perm
end
end Tp
end
section
set_option autoImplicit false
set_option linter.unusedVariables false
set_option maxRecDepth 100000
namespace Tp
open PySem
open Sem (wp)
section
def TOk (t : SetTable) (n : Nat) : Prop := ∃ m, 3 ≤ m ∧ t.mask + 1 = 2 ^ m ∧ t.place.size = n ∧ t.dummies = #[] ∧ n * 5 < t.mask * 3
theorem tok_fresh (led : Bool) : TOk (.fresh 0 0 led) 0 := ⟨3, by decide, rfl, rfl, rfl, by show 0 * 5 < 7 * 3; decide⟩
theorem pow8 {m : Nat} (h : 3 ≤ m) : 8 ≤ 2 ^ m := Nat.le_trans (by decide) (Nat.pow_le_pow_right (n := 2) (by decide) h)
theorem TOk.lt {t : SetTable} {n : Nat} (h : TOk t n) : n + 2 ≤ t.mask ∧ t.place.size = n ∧ t.dummies = #[] := by
  obtain ⟨m, h3, hm, hp, hd, hf⟩ := h
  have := pow8 h3
  exact ⟨by omega, hp, hd⟩
theorem TOk.fill {t : SetTable} {n : Nat} (h : TOk t n) : t.fill = n := by
  obtain ⟨_, hp, hd⟩ := h.lt
  unfold SetTable.fill
  rw [hp, hd] <;> rfl
theorem TOk.fits {t : SetTable} {n : Nat} (h : TOk t n) : t.fits n = true := by
  have hf := h.fill
  obtain ⟨h1, hp, _⟩ := h.lt
  unfold SetTable.fits
  rw [hf, hp, Bool.and_eq_true, decide_eq_true_iff]
  exact ⟨by simp, by omega⟩
theorem TOk.odd {t : SetTable} {n : Nat} (h : TOk t n) : t.gaveWay = false := by
  obtain ⟨m, h3, hm, _⟩ := h
  obtain ⟨k, rfl⟩ : ∃ k, m = k + 1 := ⟨m - 1, by omega⟩
  unfold SetTable.gaveWay
  rw [Nat.pow_succ] at hm
  rw [beq_eq_false_iff_ne]
  omega
theorem TOk.plain {t : SetTable} {n : Nat} (h : TOk t n) (b : Bool) : TOk { t with plain := b } n := h
theorem TOk.freeSlot {t : SetTable} {n : Nat} (h : TOk t n) (k : Int) : ∃ j, t.freeSlot k = some (j, false) := by
  obtain ⟨h1, hp, hd⟩ := h.lt
  obtain ⟨m, _, hm, _⟩ := h
  exact free_slot hm hd (by omega) k
theorem insertAt_size {α : Type} (xs : Array α) (p : Nat) (x : α) : (SetTable.insertAt xs p x).size = xs.size + 1 := by
  have z := (SetTable.insertAt_perm xs p x).length_eq
  rw [Array.length_toList, Array.length_toList, Array.size_push] at z
  exact z
/-- one more element, the table as yet not too full -/
theorem TOk.put {t : SetTable} {n : Nat} (h : TOk t n) (j : Nat) : (t.put j).1.mask = t.mask ∧ (t.put j).1.place.size = n + 1 ∧ (t.put j).1.dummies = #[] ∧ (t.put j).1.fits (n + 1) = true := by
  obtain ⟨h1, hp, hd⟩ := h.lt
  have e1 : (t.put j).1.place.size = n + 1 := by
    show (SetTable.insertAt t.place _ j).size = _
    rw [insertAt_size, hp]
  have e2 : (t.put j).1.dummies = #[] := by
    show (if SetTable.has t.dummies j then _ else t.dummies) = _
    rw [hd]
    rfl
  refine ⟨rfl, e1, e2, ?_⟩
  unfold SetTable.fits SetTable.fill
  rw [e1, e2, Bool.and_eq_true, decide_eq_true_iff]
  refine ⟨by simp, ?_⟩
  show n + 1 + 0 ≤ t.mask
  omega
theorem TOk.kept {t : SetTable} {n : Nat} (h : TOk t n) {t' : SetTable} (hm : t'.mask = t.mask) (hp : t'.place.size = n + 1) (hd : t'.dummies = #[]) (hf : t'.tooFull = false) : TOk t' (n + 1) := by
  obtain ⟨m, h3, hm', _⟩ := h
  refine ⟨m, h3, by rw [hm]; exact hm', hp, hd, ?_⟩
  unfold SetTable.tooFull SetTable.fill at hf
  rw [hp, hd] at hf
  have := of_decide_eq_false hf
  simp at this
  omega
theorem sizeGo : ∀ (fuel n a : Nat), n < 2 ^ (a + fuel) → ∃ m, a ≤ m ∧ SetTable.sizeAbove.go n fuel (2 ^ a) = 2 ^ m ∧ n < 2 ^ m ∧ (2 ^ m ≤ 2 ^ a ∨ 2 ^ m ≤ 2 * n)
  | 0, n, a, h => ⟨a, Nat.le_refl _, rfl, h, .inl (Nat.le_refl _)⟩
  | fuel + 1, n, a, h => by
    unfold SetTable.sizeAbove.go
    by_cases hle : 2 ^ a ≤ n
    · rw [if_pos hle, ← Nat.pow_succ]
      obtain ⟨m, h1, h2, h3, h4⟩ := sizeGo fuel n (a + 1) (by rw [show a + 1 + fuel = a + (fuel + 1) by omega]; exact h)
      refine ⟨m, by omega, h2, h3, .inr ?_⟩
      rcases h4 with h4 | h4
      · rw [Nat.pow_succ] at h4
        omega
      · exact h4
    · rw [if_neg hle]
      exact ⟨a, Nat.le_refl _, rfl, by omega, .inl (Nat.le_refl _)⟩
theorem size_above {n : Nat} (h : n < 2 ^ 60) : ∃ m, 3 ≤ m ∧ SetTable.sizeAbove n = 2 ^ m ∧ n < 2 ^ m ∧ 2 ^ m ≤ 2 * n + 8 := by
  obtain ⟨m, h1, h2, h3, h4⟩ := sizeGo 64 n 3 (Nat.lt_of_lt_of_le h (Nat.pow_le_pow_right (by decide) (by decide)))
  exact ⟨m, h1, h2, h3, by rcases h4 with h4 | h4 <;> omega⟩
/-- laid anew -/
theorem relaid_ok (t : SetTable) {hashes : Array Int} {n : Nat} (hn : hashes.size = n) (h1 : 1 ≤ n) (h2 : n ≤ 50000) : ∃ t' order, t.relaid hashes (SetTable.grown n) = some (t', order) ∧ TOk t' n ∧ order.toList.Perm (List.range n) ∧ SetTable.sizeAbove (SetTable.grown n) ≤ 8 * n + 8 := by
  have hg : SetTable.grown n = n * 4 := by
    unfold SetTable.grown
    rw [if_neg (by omega)]
  obtain ⟨m, m3, e1, e2, e3⟩ := size_above (n := n * 4) (Nat.lt_of_le_of_lt (Nat.mul_le_mul_right 4 h2) (by decide))
  have hm : 2 ^ m - 1 + 1 = 2 ^ m := by omega
  obtain ⟨t', order, g1, g2, g3, g4, g5⟩ := laid_ok (mask := 2 ^ m - 1) (m := m) (finger := t.finger) (moves := t.movedTo (2 ^ m - 1)) (led := t.led) (plain := t.plain) (hashes := hashes) hm (by omega)
  rw [hn] at g4 g5
  refine ⟨t', order, ?_, ⟨m, m3, by rw [g2]; exact hm, g4, g3, by rw [g2]; omega⟩, g5, by rw [hg, e1]; omega⟩
  unfold SetTable.relaid
  rw [hg, e1]
  exact g1
theorem covers_ok {order : Array Nat} {n : Nat} (h : order.toList.Perm (List.range n)) : coversAll order n = true := List.isPerm_iff.mpr h
theorem relay_size {order : Array Nat} {es : Array (Int × Value)} (h : order.toList.Perm (List.range es.size)) : (order.filterMap (es[·]?)).toList.Perm es.toList := by
  rw [Array.toList_filterMap]
  refine (h.filterMap _).trans ?_
  rw [filterMap_getElem?_range]
theorem relayAll_ok (t : SetTable) {es : Array (Int × Value)} (h1 : 1 ≤ es.size) (h2 : es.size ≤ 50000) : ∃ es' t', relayAll t es (SetTable.grown es.size) = (es', t', false) ∧ TOk t' es'.size ∧ es'.toList.Perm es.toList := by
  obtain ⟨t', order, e1, e2, e3, _⟩ := relaid_ok t (hashes := es.map (·.1)) (n := es.size) (Array.size_map ..) h1 h2
  have hp := relay_size e3
  have hs : (order.filterMap (es[·]?)).size = es.size := by
    rw [← Array.length_toList, hp.length_eq, Array.length_toList]
  refine ⟨_, t', ?_, by rw [hs]; exact e2, hp⟩
  unfold relayAll
  rw [e1]
  dsimp only
  rw [hs, covers_ok e3, e2.fits] <;> rfl
theorem layNew_ok {t : SetTable} {es : Array (Int × Value)} (h : TOk t es.size) (hk : Int) (x : Value) : ∃ es' t', layNew t es hk x = (es', t', false, false) ∧ es'.size = es.size + 1 ∧ es'.toList.Perm (es.push (hk, x)).toList ∧ t'.mask = t.mask ∧ t'.place.size = es.size + 1 ∧ t'.dummies = #[] ∧ t'.fits (es.size + 1) = true := by
  obtain ⟨j, hj⟩ := h.freeSlot hk
  obtain ⟨p1, p2, p3, p4⟩ := h.put j
  have hs : (SetTable.insertAt es (t.put j).2 (hk, x)).size = es.size + 1 := insertAt_size ..
  refine ⟨SetTable.insertAt es (t.put j).2 (hk, x), (t.put j).1, ?_, hs, SetTable.insertAt_perm .., p1, p2, p3, p4⟩
  unfold layNew
  rw [hj]
  show (SetTable.insertAt es (t.put j).2 (hk, x), (t.put j).1.orStandIn (SetTable.insertAt es (t.put j).2 (hk, x)).size, false, !(t.put j).1.fits (SetTable.insertAt es (t.put j).2 (hk, x)).size) = _
  rw [hs]
  unfold SetTable.orStandIn
  rw [p4] <;> rfl
theorem slot_live {t : SetTable} {j i : Nat} (h : t.slot j = .live i) : t.place[i]? = some j := by
  unfold SetTable.slot at h
  dsimp only at h
  split at h
  · rename_i hb
    cases h
    exact eq_of_beq hb
  · split at h <;> cases h
theorem probe_met {t : SetTable} {n : Nat} (hT : TOk t n) {hashAt : Nat → Int} {h : Int} {p : SetTable.Probe} {r : Option SetTable.Met} (hp : POk p) {k : Nat} (hk : t.slot (adv t k p).j = .empty) (hkn : k ≤ 10 * (14 + n)) (e : t.probe hashAt h p = r) :
    (∃ j, r = some (.empty j none)) ∨ ∃ k' i, k' < k ∧ t.slot (adv t k' p).j = .live i ∧ r = some (.candidate (adv t k' p).j i (adv t (k' + 1) p)) := by
  subst e
  obtain ⟨h1, hp1, hd⟩ := hT.lt
  rcases go_met hd hashAt h k (10 * SetTable.turns t.mask) p hp.dummy (by unfold SetTable.turns; omega) hk with ⟨j, e⟩ | ⟨k', i, e1, e2, _, e3⟩
  · exact .inl ⟨j, e⟩
  · exact .inr ⟨k', i, e1, e2, e3⟩
theorem unseen {k : Int} {t : Tok} : ∀ l : List Value, (∀ y ∈ l, carriedByValue y = true) → searchCouldBeSeen (.int k t) l = pure false := by
  intro l hl
  unfold searchCouldBeSeen
  have h : ∀ l : List Value, (∀ y ∈ l, carriedByValue y = true) → ∀ f : Value → Option Bool × Unit → Sem (ForInStep (Option Bool × Unit)), (∀ y r, carriedByValue y = true → f y r = pure (ForInStep.yield (none, ()))) → forIn l ((none, ()) : Option Bool × Unit) f = pure (none, ()) := by
    intro l
    induction l with
    | nil => intro _ f _; rfl
    | cons y l ih =>
      intro hl f hf
      rw [List.forIn_cons, hf y _ (hl y (List.mem_cons_self ..)), pure_bind]
      exact ih (fun z hz => hl z (List.mem_cons_of_mem _ hz)) f hf
  rw [h l hl _ (fun y r hy => by
    show (if (_ || carriedByValue (Value.int k t) && carriedByValue y) = true then _ else _) = _
    rw [if_pos (by rw [hy]; simp [carriedByValue])])]
  rfl
end
end Tp
end
section
set_option autoImplicit false
set_option linter.unusedVariables false
set_option maxRecDepth 100000
namespace Tp
open PySem
section
section
variable {prog : Program} {w : World} {A : Around} {E : Value → Shared → Prop} {s : Shared}
theorem same_self {k : Int} {t : Tok} {Q : Bool → Shared → Prop} (ht : t ≠ 0) (h : Q true s) : wpAny (model prog w) A (isSame (.int k t) (.int k t)) Q E s := by
  have h0 : (t == 0 || t == 0) = false := by simpa using ht
  show wpAny _ _ (if (k == k && smallInt k) = true then isSame.cachedInt t t else isSame.created (k == k) t t) Q E s
  split
  · unfold isSame.cachedInt
    rw [h0]
    exact wpAny_bind (wpAny_rule (wpAny_pure h))
  · unfold isSame.created
    rw [h0]
    simp only [Bool.false_eq_true, if_false]
    rw [if_pos (by simp)]
    exact wpAny_pure h
/-- the elements: ints, their tokens not 0 -/
def Els (prog : Program) (w : World) (l : List (Int × Value)) : Prop := ElemsOf (intKind prog w) l ∧ ∀ e ∈ l, ∀ i t, e.2 = Value.int i t → t ≠ 0
theorem Els.int {l : List (Int × Value)} (h : Els prog w l) {e : Int × Value} (he : e ∈ l) : ∃ i t, e.2 = .int i t ∧ t ≠ 0 ∧ e.1 = (intKind prog w).hash i := by
  obtain ⟨⟨k, hk, hh⟩, _⟩ := h.1 e he
  obtain ⟨t, ht⟩ := Value.isInt_shape hk
  exact ⟨k, t, ht, h.2 e he k t ht, hh⟩
/-- a question that is asked of a table that isn't led, and always answered no -/
theorem led_way {α : Type} {c : Bool} {u : Sem Bool} {x : Sem α} {y : Bool → Sem α} {M : Model} {Q : α → Shared → Prop} (hu : c = false → u = pure false) (hy : y false = x) (h : wpAny M A x Q E s) : wpAny M A (if (!c) = true then u >>= y else x) Q E s := by
  cases c with
  | false =>
    rw [if_pos (show (!false) = true from rfl), hu rfl]
    exact wpAny_bind (wpAny_pure (by rw [hy]; exact h))
  | true =>
    rw [if_neg (by decide)]
    exact h
theorem search_ok {a : Addr} {o : Obj} {es : Array (Int × Value)} {ep : Nat} {t : SetTable} {k : Int} {tk : Tok} {hh : Int} {Q : SetFound → Shared → Prop} (ho : s.heap.get? a = some o) (hd : o.data = .set es ep t) (hT : TOk t es.size) (hE : Els prog w es.toList)
    (h1 : Q (.there none) s) (h2 : ∀ j, Q (.free j false) s) : ∀ (n fuel : Nat) (p : SetTable.Probe) (st : Option SetTable.Probe), st.getD (t.probeStart hh) = p → POk p → t.slot (adv t n p).j = .empty → n ≤ 10 * (14 + es.size) → n < fuel →
    wpAny (model prog w) A (setSearchFrom a (.int k tk) hh true fuel st) Q E s := by
  intro n
  induction n using Nat.strongRecOn with
  | _ n ih =>
    intro fuel p st hst hp hn hnb hf
    obtain ⟨fuel, rfl⟩ : ∃ f, fuel = f + 1 := ⟨fuel - 1, by omega⟩
    unfold setSearchFrom
    refine wpAny_bind (wpAny_setState_of ho hd hT.fits ?_)
    dsimp only
    rw [hT.odd, hst]
    simp only [Bool.false_eq_true, if_false]
    generalize hpr : SetTable.probe t _ hh p = pr
    rcases probe_met hT hp hn hnb hpr with ⟨j, rfl⟩ | ⟨k', i, hk', hl, rfl⟩
    · dsimp only
      exact wpAny_pure (h2 j)
    · dsimp only
      have hpl := slot_live hl
      have hil : i < es.size := by
        rw [← hT.lt.2.1]
        exact (Array.getElem?_eq_some_iff.mp hpl).1
      obtain ⟨e, he⟩ : ∃ e, es[i]? = some e := ⟨_, Array.getElem?_eq_getElem hil⟩
      have hem : e ∈ es.toList := List.mem_of_getElem? (by rw [Array.getElem?_toList]; exact he)
      obtain ⟨i', t', hei, ht', _⟩ := hE.int hem
      obtain ⟨eh, ev⟩ := e
      have hei : ev = .int i' t' := hei
      subst hei
      refine led_way (fun _ => unseen _ fun y hy => ?_) rfl ?_
      · obtain ⟨e, he2, rfl⟩ := List.mem_map.mp hy
        rw [Array.toList_filter] at he2
        obtain ⟨i2, t2, hx, _, _⟩ := hE.int (List.mem_filter.mp he2).1
        rw [hx] <;> rfl
      rw [he]
      dsimp only
      refine wpAny_bind (wpAny_holding (wpAny_eqBool_int ?_))
      refine wpAny_bind (wpAny_setState_of ho hd hT.fits ?_)
      dsimp only
      by_cases hq : i' = k
      · rw [show (i' == k) = true by simpa using hq]
        exact wpAny_pure h1
      · rw [show (i' == k) = false from beq_eq_false_iff_ne.mpr hq]
        simp only [Bool.and_false, Bool.false_eq_true, if_false]
        have hsm : t.sameMemory t.moves t.mask = some true := by
          unfold SetTable.sameMemory
          rw [if_pos (by simp)]
        rw [hsm]
        dsimp only
        rw [if_pos rfl, hl]
        dsimp only
        rw [he]
        dsimp only
        refine wpAny_bind (same_self ht' (wpAny_bind (wpAny_pure ?_)))
        rw [if_pos rfl]
        dsimp only
        have hne : t.slot (adv t (n - (k' + 1)) (adv t (k' + 1) p)).j = .empty := by
          rw [← adv_add, show k' + 1 + (n - (k' + 1)) = n by omega]
          exact hn
        exact ih (n - (k' + 1)) (by omega) fuel _ (some (adv t (k' + 1) p)) rfl (hp.adv _) hne (by omega) (by omega)
/-- a set of ints that grew by these, so many at most; from 4096 on its members are not told -/
def SetM (prog : Program) (w : World) (h : Heap) (a : Addr) (L : List Int) (N : Nat) : Prop :=
  ∃ o es ep t, h.get? a = some o ∧ o.ExactSet ∧ o.data = .set es ep t ∧ Els prog w es.toList ∧ TOk t es.size ∧ es.size ≤ N ∧
    ((es.size < 4096 ∧ es.size = L.length ∧ ∀ k, L.any (· == k) = true ↔ ∃ e ∈ es.toList, (intKind prog w).is k e.2 = true) ∨ (4096 ≤ es.size ∧ 4096 ≤ L.length))
theorem Els.perm {l l' : List (Int × Value)} (h : Els prog w l) (p : List.Perm l' l) : Els prog w l' := ⟨h.1.perm p, fun e he => h.2 e (p.mem_iff.mp he)⟩
theorem Els.push {l : List (Int × Value)} (h : Els prog w l) {k : Int} {tk : Tok} (ht : tk ≠ 0) : Els prog w (l ++ [((intKind prog w).hash k, .int k tk)]) := by
  refine ⟨h.1.push (intKind_is _ _ k tk) rfl, fun e he i t hi => ?_⟩
  rcases List.mem_append.mp he with he | he
  · exact h.2 e he i t hi
  · rw [List.mem_singleton] at he
    subst he
    cases hi
    exact ht
theorem put_get {h : Heap} {a : Addr} {o : Obj} {es : Array (Int × Value)} {ep : Nat} {t : SetTable} (ho : h.get? a = some o) (hd : o.data = .set es ep t) (es' : Array (Int × Value)) (t' : SetTable) :
    (h.update a (Obj.putSet es' t')).get? a = some { o with data := .set es' (ep + 1) t' } := by
  have z := Heap.get?_update_self (Obj.putSet es' t') ho (by rw [putSet_of es' t' hd] <;> rfl)
  rw [putSet_of es' t' hd] at z
  exact z
theorem dedup_len (L : List Int) (k : Int) : (PyProof.Rows.step_dedup L k).length = if L.any (· == k) then L.length else L.length + 1 := PyProof.Rows.step_length L k
def Mode (prog : Program) (w : World) (es : Array (Int × Value)) (L : List Int) : Prop :=
  (es.size < 4096 ∧ es.size = L.length ∧ ∀ k, L.any (· == k) = true ↔ ∃ e ∈ es.toList, (intKind prog w).is k e.2 = true) ∨ (4096 ≤ es.size ∧ 4096 ≤ L.length)
theorem Mode.perm {es es' : Array (Int × Value)} {L : List Int} (h : Mode prog w es L) (p : es'.toList.Perm es.toList) : Mode prog w es' L := by
  have hsz : es'.size = es.size := by rw [← Array.length_toList, p.length_eq, Array.length_toList]
  unfold Mode
  rw [hsz]
  rcases h with ⟨a1, a2, a3⟩ | h
  · exact .inl ⟨a1, a2, fun k => (a3 k).trans ⟨fun ⟨e, he, q⟩ => ⟨e, p.mem_iff.mpr he, q⟩, fun ⟨e, he, q⟩ => ⟨e, p.mem_iff.mp he, q⟩⟩⟩
  · exact .inr h
/-- stored, not too full -/
theorem stored1 {h : Heap} {a : Addr} {o : Obj} {es es1 : Array (Int × Value)} {ep N : Nat} {t t1 : SetTable} {L : List Int} (ho : h.get? a = some o) (hex : o.ExactSet) (hd : o.data = .set es ep t) (hE : Els prog w es1.toList) (hT : TOk t1 es1.size) (hN : es1.size ≤ N) (hL : Mode prog w es1 L) :
    SetM prog w (h.update a (Obj.putSet es1 t1)) a L N := ⟨_, es1, ep + 1, t1, put_get ho hd es1 t1, hex, rfl, hE, hT, hN, hL⟩
/-- stored, then laid anew -/
theorem stored2 {h : Heap} {a : Addr} {o : Obj} {es es1 es' : Array (Int × Value)} {ep N : Nat} {t t1 t' : SetTable} {L : List Int} (ho : h.get? a = some o) (hex : o.ExactSet) (hd : o.data = .set es ep t) (hE : Els prog w es1.toList) (hN : es1.size ≤ N) (hL : Mode prog w es1 L)
    (hT' : TOk t' es'.size) (hp' : es'.toList.Perm es1.toList) : SetM prog w ((h.update a (Obj.putSet es1 t1)).update a (Obj.putSet es' t')) a L N := by
  have hsz : es'.size = es1.size := by rw [← Array.length_toList, hp'.length_eq, Array.length_toList]
  exact stored1 (put_get ho hd es1 t1) hex rfl (hE.perm hp') hT' (by rw [hsz]; exact hN) (hL.perm hp')
theorem any_dedup (L : List Int) (k j : Int) : (PyProof.Rows.step_dedup L k).any (· == j) = (L.any (· == j) || decide (j = k)) := PyProof.Rows.step_any L k j
/-- the new order, as the model takes it -/
def ordered (xs : Array (Int × Value)) (l : Option (SetTable × Array Nat)) : Sem (Array (Int × Value) × SetTable) := do
  let some q := l | unsupported "internal:set-table-without-room"
  let ys := q.2.filterMap (xs[·]?)
  if ys.size != xs.size then unsupported "internal:set-table-lost-an-element"
  pure (ys, q.1)
theorem ordered_ok {xs : Array (Int × Value)} {t : SetTable} {order : Array Nat} (h : (order.filterMap (xs[·]?)).size = xs.size) : ordered xs (some (t, order)) = pure (order.filterMap (xs[·]?), t) := by
  unfold ordered
  dsimp only
  have e : ((order.filterMap (xs[·]?)).size != xs.size) = false := by rw [h]; simp
  rw [e]
  rfl
theorem add_ok {a : Addr} {k : Int} {tk : Tok} {L : List Int} {N : Nat} {Q : Bool → Shared → Prop} (hS : SetM prog w s.heap a L N) (ht : tk ≠ 0) (hN : N + 1 ≤ 9000)
    (h : ∀ b h', Heap.SameBut a s.heap h' → SetM prog w h' a (PyProof.Rows.step_dedup L k) (N + 1) → Q b { s with heap := h' }) :
    wpAny (model prog w) A (setAddHashed a (.int k tk) ((intKind prog w).hash k)) Q E s := by
  obtain ⟨o, es, ep, t, ho, hex, hd, hE, hT, hEN, hL⟩ := hS
  have hkey := intKind_is prog w k tk
  have es0 : s = { s with heap := s.heap } := by cases s; rfl
  unfold setAddHashed setAddHashedIn
  refine wpAny_holding (wpAny_bind (wpAny_setState_of ho hd hT.fits ?_))
  dsimp only
  rcases hL with ⟨hlt, hlen, hmem⟩ | ⟨hge, hlen⟩
  · rw [byScan_of (knd := intKind prog w) rfl hlt hE.1]
    simp only [↓reduceIte]
    unfold setAddByScan
    refine wpAny_bind (wpAny_bind (wpAny_rule ?_))
    refine wpAny_bind (wpAny_setScan_of hkey ho hd hT.fits hE.1 ?_)
    cases hr : List.findIdx? (fun e => (intKind prog w).is k e.2) es.toList with
    | some j =>
      dsimp only
      obtain ⟨hj, hpj, _⟩ := List.findIdx?_eq_some_iff_getElem.mp hr
      have hany : L.any (· == k) = true := (hmem k).mpr ⟨es.toList[j], List.getElem_mem hj, hpj⟩
      have hdd : PyProof.Rows.step_dedup L k = L := by
        unfold PyProof.Rows.step_dedup
        rw [if_pos hany]
      refine wpAny_pure (wpAny_pure ?_)
      have z := h false s.heap (Heap.SameBut.refl a s.heap) ⟨o, es, ep, t, ho, hex, hd, hE, hT, by omega, .inl (by rw [hdd]; exact ⟨hlt, hlen, hmem⟩)⟩
      rw [es0]
      exact z
    | none =>
      dsimp only
      have hany : L.any (· == k) = false := by
        cases hk : L.any (· == k) with
        | false => rfl
        | true =>
          obtain ⟨e, he, hp⟩ := (hmem k).mp hk
          have z := List.findIdx?_eq_none_iff.mp hr e he
          rw [hp] at z
          cases z
      obtain ⟨es1, t1, eL, l1, l2, l3, l4, l5, l6⟩ := layNew_ok hT ((intKind prog w).hash k) (.int k tk)
      rw [eL]
      dsimp only
      rw [Array.toList_push] at l2
      have hE1 : Els prog w es1.toList := (hE.push ht).perm l2
      have hL1 : (es1.size < 4096 ∧ es1.size = (PyProof.Rows.step_dedup L k).length ∧ ∀ j, (PyProof.Rows.step_dedup L k).any (· == j) = true ↔ ∃ e ∈ es1.toList, (intKind prog w).is j e.2 = true) ∨ (4096 ≤ es1.size ∧ 4096 ≤ (PyProof.Rows.step_dedup L k).length) := by
        have hl : (PyProof.Rows.step_dedup L k).length = es1.size := by
          rw [dedup_len, hany, l1, hlen] <;> rfl
        by_cases h4 : es1.size < 4096
        · refine .inl ⟨h4, hl.symm, fun j => ?_⟩
          rw [any_dedup]
          exact mem_push_iff hkey (S := fun j => L.any (· == j)) hmem l2 j
        · exact .inr ⟨by omega, by omega⟩
      have hsz1 : es1.size ≤ sizeLine := by rw [sizeLine_eq]; omega
      have sb1 := Heap.SameBut.update s.heap a (Obj.putSet es1 t1)
      have body : wpAny (model prog w) A (do
          storeSet a es1 t1
          if (!false && t1.tooFull) = true then do
            (match (relayAll t1 es1 (SetTable.grown es1.size)).2.2 with | true => rule "set.scan.the-table-gave-way" | false => pure ())
            storeSet a (relayAll t1 es1 (SetTable.grown es1.size)).1 (relayAll t1 es1 (SetTable.grown es1.size)).2.1
            pure (some true)
          else pure (some true)) (fun r s' => ∃ h', s' = { s with heap := h' } ∧ Heap.SameBut a s.heap h' ∧ SetM prog w h' a (PyProof.Rows.step_dedup L k) (N + 1) ∧ r = some true) E s := by
        refine wpAny_bind (wpAny_storeSet_of ho hd ?_ hsz1)
        by_cases hf : t1.tooFull = true
        · obtain ⟨es2, t2, eR, r1, r2⟩ := relayAll_ok t1 (es := es1) (by omega) (by omega)
          have hsz2 : es2.size ≤ sizeLine := by
            have : es2.size = es1.size := by rw [← Array.length_toList, r2.length_eq, Array.length_toList]
            omega
          rw [hf, eR]
          simp only [Bool.not_false, Bool.and_self, if_true]
          refine wpAny_bind (wpAny_pure ?_)
          refine wpAny_bind (wpAny_storeSet_of (s := { s with heap := s.heap.update a (Obj.putSet es1 t1) }) (put_get ho hd es1 t1) rfl ?_ hsz2)
          exact wpAny_pure ⟨_, rfl, sb1.trans (Heap.SameBut.update _ a _), stored2 ho hex hd hE1 (by omega) hL1 r1 r2, rfl⟩
        · rw [if_neg (by simpa using hf)]
          exact wpAny_pure ⟨_, rfl, sb1, stored1 ho hex hd hE1 (by rw [l1]; exact hT.kept l3 l4 l5 (by simpa using hf)) (by omega) hL1, rfl⟩
      refine wpAny_bind (wpAny_pure ?_)
      have fin : ∀ (r : Option Bool) (s' : Shared), (∃ h', s' = { s with heap := h' } ∧ Heap.SameBut a s.heap h' ∧ SetM prog w h' a (PyProof.Rows.step_dedup L k) (N + 1) ∧ r = some true) → wpAny (model prog w) A (match r with
          | some added => pure added
          | none => setAddHashedIn a (.int k tk) ((intKind prog w).hash k) 99999) Q E s' := by
        rintro r s' ⟨h', rfl, h1, h2, rfl⟩
        exact wpAny_pure (h true h' h1 h2)
      split
      · refine wpAny_bind ?_
        rw [hashByValue_scannable 8 rfl]
        refine wpAny_pure ?_
        exact wpAny_mono body (fun r s' hq => fin r s' hq) fun _ _ x => x
      · refine wpAny_bind (wpAny_pure ?_)
        exact wpAny_mono body (fun r s' hq => fin r s' hq) fun _ _ x => x
  · have hbs : byScan (.int k tk) es = false := by
      unfold byScan
      have : decide (es.size < scanBound) = false := decide_eq_false (by show ¬ es.size < 4096; omega)
      rw [this]
      simp
    rw [hbs]
    simp only [Bool.false_eq_true, if_false]
    unfold setSearch
    obtain ⟨hlt, hp, hdm⟩ := hT.lt
    have hT0 := hT
    obtain ⟨m, _, hM, _⟩ := hT0
    obtain ⟨n, hn1, hn2⟩ := meet_empty hM hdm (by omega) (start_ok t ((intKind prog w).hash k))
    rw [hp] at hn1
    refine wpAny_bind (search_ok ho hd hT hE ?_ (fun j => ?_) n 100000 _ none rfl (start_ok t _) hn2 hn1 (by omega))
    · refine wpAny_pure ?_
      have z := h false s.heap (Heap.SameBut.refl a s.heap) ⟨o, es, ep, t, ho, hex, hd, hE, hT, by omega, .inr ⟨hge, by rw [dedup_len]; split <;> omega⟩⟩
      rw [es0]
      exact z
    · dsimp only
      refine wpAny_bind (wpAny_setState_of ho hd hT.fits ?_)
      dsimp only
      obtain ⟨p1, p2, p3, p4⟩ := hT.put j
      have q1 : (SetTable.insertAt es (t.put j).2 ((intKind prog w).hash k, Value.int k tk)).size = es.size + 1 := insertAt_size ..
      have q2 := SetTable.insertAt_perm es (t.put j).2 ((intKind prog w).hash k, Value.int k tk)
      rw [Array.toList_push] at q2
      generalize SetTable.insertAt es (t.put j).2 ((intKind prog w).hash k, Value.int k tk) = es1 at q1 q2 ⊢
      have hTk := hT.kept p1 p2 p3
      generalize (t.put j).1 = t1 at p1 p2 p3 p4 hTk ⊢
      have hE1 : Els prog w es1.toList := (hE.push ht).perm q2
      have hL1 : Mode prog w es1 (PyProof.Rows.step_dedup L k) := .inr ⟨by omega, by rw [dedup_len]; split <;> omega⟩
      have hsz1 : es1.size ≤ sizeLine := by rw [sizeLine_eq]; omega
      have sb1 := Heap.SameBut.update s.heap a (Obj.putSet es1 t1)
      have body : wpAny (model prog w) A (do
          storeSet a es1 t1
          if (!false && t1.tooFull) = true then do
            setRelay a (SetTable.grown (es.size + 1))
            pure true
          else pure true) (fun r s' => ∃ h', s' = { s with heap := h' } ∧ Heap.SameBut a s.heap h' ∧ SetM prog w h' a (PyProof.Rows.step_dedup L k) (N + 1) ∧ r = true) E s := by
        refine wpAny_bind (wpAny_storeSet_of ho hd ?_ hsz1)
        by_cases hf : t1.tooFull = true
        · obtain ⟨t2, order, e1, e2, e3, e4⟩ := relaid_ok t1 (hashes := es1.map (·.1)) (n := es1.size) (Array.size_map ..) (by omega) (by omega)
          have r2 := relay_size e3
          have hs2 : (order.filterMap (es1[·]?)).size = es1.size := by
            rw [← Array.length_toList, r2.length_eq, Array.length_toList]
          rw [hf]
          simp only [Bool.not_false, Bool.and_self, if_true]
          refine wpAny_bind ?_
          unfold setRelay
          refine wpAny_bind (wpAny_setState_of (s := { s with heap := s.heap.update a (Obj.putSet es1 t1) }) (put_get ho hd es1 t1) rfl (by rw [q1]; exact p4) ?_)
          dsimp only
          rw [← q1]
          rw [if_neg (by rw [sizeLine_eq]; omega), e1]
          refine wpAny_bind ?_
          show wpAny _ _ (ordered es1 (some (t2, order))) _ _ _
          rw [ordered_ok hs2]
          refine wpAny_pure ?_
          have hsz2 : (order.filterMap (es1[·]?)).size ≤ sizeLine := by omega
          refine wpAny_storeSet_of (s := { s with heap := s.heap.update a (Obj.putSet es1 t1) }) (put_get ho hd es1 t1) rfl ?_ hsz2
          exact wpAny_pure ⟨_, rfl, sb1.trans (Heap.SameBut.update _ a _), stored2 ho hex hd hE1 (by omega) hL1 (by rw [hs2]; exact e2) r2, rfl⟩
        · rw [if_neg (by simpa using hf)]
          exact wpAny_pure ⟨_, rfl, sb1, stored1 ho hex hd hE1 (by rw [q1]; exact hTk (by simpa using hf)) (by omega) hL1, rfl⟩
      have fin : ∀ (r : Bool) (s' : Shared), (∃ h', s' = { s with heap := h' } ∧ Heap.SameBut a s.heap h' ∧ SetM prog w h' a (PyProof.Rows.step_dedup L k) (N + 1) ∧ r = true) → Q r s' := by
        rintro r s' ⟨h', rfl, h1, h2, rfl⟩
        exact h true h' h1 h2
      split
      · refine wpAny_bind ?_
        rw [hashByValue_scannable 8 rfl]
        refine wpAny_pure ?_
        exact wpAny_mono body (fun r s' hq => fin r s' hq) fun _ _ x => x
      · refine wpAny_bind (wpAny_pure ?_)
        exact wpAny_mono body (fun r s' hq => fin r s' hq) fun _ _ x => x
end
end
end Tp
end
section
set_option autoImplicit false
set_option linter.unusedVariables false
set_option maxRecDepth 100000
set_option maxHeartbeats 8000000
namespace Tp
open PySem PySem.Spec PyProof.Rows
section
theorem SetM.at_ {prog : Program} {w : World} {h h' : Heap} {a : Addr} {L : List Int} {N : Nat} (x : SetM prog w h a L N) (k : ∀ o, h.get? a = some o → h'.get? a = some o) : SetM prog w h' a L N := by
  obtain ⟨o, es, ep, t, ho, r⟩ := x
  exact ⟨o, es, ep, t, k o ho, r⟩
section
variable {prog : Program} {w : World} {A : Around} {R : Result → Shared → Prop} {I : Addr} {fp wr : List Addr} {G : Array GenState → Array GenState → Prop} {n : Nat} {P : Nat → Value → Prop} {St : Nat → Shared → Prop}
/-- the walk over the items, each added -/
theorem fill_loop (W : WalksS prog w A.in1 I fp wr G n P St) (S : Addr) (away : S ∉ fp) (val : Nat → Int) (hv : ∀ i v, P i v → ∃ t, t ≠ 0 ∧ v = .int (val i) t) (hn : n ≤ 8000) :
    ∀ (left i : Nat) (s : Shared), n - i = left → i ≤ n → St i s → SetM prog w s.heap S (firstMet val i) i → (∀ s', Moved (S :: wr) G s s' → SetM prog w s'.heap S (firstMet val n) n → R (.ok (.ret .none)) s') →
      codeAny (model prog w) A (.builtin "set.update.loop" ⟨[.ref S, .ref I], []⟩) R s := by
  have away2 : S ∉ wr := fun z => away (W.sub _ z)
  have more : ∀ b ∈ wr, b ∈ S :: wr := fun b hb => List.mem_cons_of_mem _ hb
  intro left
  induction left with
  | zero =>
    intro i s hl hi st hS fin
    obtain rfl : i = n := by omega
    refine codeAny_builtin F.entry_set_update_loop ?_
    rw [Around.under_plainId F.plain_set_update_loop _]
    show wpAny _ A.in1 (pyNext (.ref I) >>= _) _ _ s
    refine wpAny_bind (W.done s _ _ st fun s' mv => ?_)
    show wpAny _ A.in1 (ret Value.none) _ _ s'
    exact wpAny_pure (fin s' (mv.mono more) (hS.at_ fun o ho => mv.heap S _ away2 ho))
  | succ left ih =>
    intro i s hl hi st hS fin
    have hlt : i < n := by omega
    refine codeAny_builtin F.entry_set_update_loop ?_
    rw [Around.under_plainId F.plain_set_update_loop _]
    show wpAny _ A.in1 (pyNext (.ref I) >>= _) _ _ s
    refine wpAny_bind (W.item i s _ _ hlt st fun v s' hP st' mv => ?_)
    obtain ⟨t, ht, rfl⟩ := hv i v hP
    have hS' : SetM prog w s'.heap S (firstMet val i) i := hS.at_ fun o ho => mv.heap S _ away2 ho
    show wpAny _ A.in1 (holding [Value.int (val i) t] (setAdd S (.int (val i) t)) >>= _) _ _ s'
    refine wpAny_bind (wpAny_holding ?_)
    unfold setAdd
    refine wpAny_holding ?_
    refine wpAny_bind ((intKind prog w).pyHash (k := val i) (intKind_is _ _ _ _) ?_)
    refine add_ok (s := { s' with toks := s'.toks + 1 }) hS' ht (by omega) fun b h' sb hS2 => ?_
    rw [← firstMet_succ] at hS2
    refine wpAny_pure ⟨plainId_quiet F.plain_set_update_loop _, ih (i + 1) _ (by omega) hlt (W.frame _ s' _ _ st' (Nat.le_succ _) fun c hc o e => ?_) hS2 fun s'' mv2 hS3 => ?_⟩
    · rw [sb.2 c fun z => away (by rw [← z]; exact hc)]
      exact e
    · refine fin s'' (Moved.trans W.gtrans ((mv.mono more).then_heap (Nat.le_succ _) fun c o hc e => ?_) mv2) hS3
      rw [sb.2 c fun z => hc (by rw [z]; exact List.mem_cons_self)]
      exact e
end
section
variable {prog : Program} {w : World} {A : Around} {E : Value → Shared → Prop} {s : Shared}
theorem setM_new (led : Bool) {h : Heap} {a : Addr} (hg : h.get? a = some { cls := .type "set", dict := none, data := .set #[] 0 (.fresh 0 0 led) }) : SetM prog w h a [] 0 :=
  ⟨_, #[], 0, .fresh 0 0 led, hg, ⟨rfl, rfl, rfl⟩, rfl, ⟨fun e he => by simp at he, fun e he => by simp at he⟩, tok_fresh led, Nat.le_refl _, .inl ⟨by decide, rfl, fun k => by simp⟩⟩
/-- set(l) -/
theorem set_of_list {l : Addr} {items : Array Value} {ns : List Int} {Q : Value → Shared → Prop} (hh : A.handled = none) (hl : s.heap.IsList l items) (hi : ∀ (i : Nat) (v : Value), items[i]? = some v → ∃ t, t ≠ 0 ∧ v = .int (ns.getD i 0) t) (hb : items.size ≤ 8000)
    (h : ∀ (h' : Heap) (tk : Nat), SetM prog w h' s.heap.objs.size (firstMet (fun i => ns.getD i 0) items.size) items.size → (∀ b o, b < s.heap.objs.size → s.heap.get? b = some o → h'.get? b = some o) → Q (.ref s.heap.objs.size) { s with heap := h', toks := tk }) :
    wpAny (model prog w) A (call (.type "set") [.ref l]) Q E s := by
  obtain ⟨c, tl, hmro⟩ := PySem.F.called_set.mro
  have hmade := PySem.F.called_set.made
  have hsub := PySem.F.called_set.sub
  refine wpAny_call (codeAny_of_tree ?_)
  show wpAny _ _ (callAny (.type "set") _) _ _ _
  refine wpAny_pure ⟨Code.quiet_builtin _ (by decide +kernel), codeAny_builtin PySem.F.entry_type_call ?_⟩
  rw [Around.under_plain (weight_type_call_type "set" [.ref l] []) rfl]
  have h1 := PySem.F.called_set.notType
  have h2 := PySem.F.called_set.canCreate
  have hct := PySem.F.typeCall_set_1 (.ref l)
  repeat (any_goals (first | assumption | wp_step))
  refine codeAny_mono (code_set_new_1 (.ref l) (E := E) (Q₁ := fun ob s1 => ∃ led : Bool, ob = .ref s.heap.objs.size ∧ s1 = { s with heap := s.heap.push { cls := .type "set", dict := none, data := .set #[] 0 (.fresh 0 0 led) } }) fun led => ⟨led, rfl, rfl⟩) fun r s1 hr => ?_
  cases r with
  | error e => exact hr
  | ok fl =>
    cases fl with
    | ret ob =>
      obtain ⟨led, rfl, rfl⟩ := hr
      have hS : (s.heap.push { cls := .type "set", dict := none, data := .set #[] 0 (.fresh 0 0 led) }).get? s.heap.objs.size = some { cls := .type "set", dict := none, data := .set #[] 0 (.fresh 0 0 led) } := Heap.get?_push_size _ rfl
      have hT : Shared.TypeIs { s with heap := s.heap.push { cls := .type "set", dict := none, data := .set #[] 0 (.fresh 0 0 led) } } (.ref s.heap.objs.size) "set" := ⟨_, hS, rfl⟩
      have hli := PySem.F.called_set.init.lookup
      have hbi := PySem.F.called_set.init.bind (.ref s.heap.objs.size)
      repeat (any_goals (first | assumption | wp_step))
      refine codeAny_mono (codeAny_call_builtin (R := wants (fun r s2 => r = .none ∧ ∃ h' tk, s2 = { s with heap := h', toks := tk } ∧ SetM prog w h' s.heap.objs.size (firstMet (fun i => ns.getD i 0) items.size) items.size ∧
          (∀ b o, b < s.heap.objs.size → s.heap.get? b = some o → h'.get? b = some o)) E) PySem.F.called_set.init.plain PySem.F.entry_set_init (check_set_init_1 hT ?_)) fun r2 s2 hr2 => ?_
      · obtain ⟨ol, hol, hcl, nl, hdl⟩ := hl
        obtain ⟨ocls, odict, odata, oslots⟩ := ol
        simp only at hcl hdl
        subst hcl
        subst hdl
        have hol' : (s.heap.push { cls := .type "set", dict := none, data := .set #[] 0 (.fresh 0 0 led) }).get? l = some { cls := .type "list", dict := odict, data := .seq items nl, slots := oslots } := Heap.get?_push_of_some _ hol
        have hsls := PySem.F.sub_list_set
        have hslf := PySem.F.sub_list_frozenset
        have hne : (Value.type "list" == Value.type "dict") = false := by decide
        have hl1 : (s.heap.push { cls := .type "set", dict := none, data := .set #[] 0 (.fresh 0 0 led) }).IsList l items := ⟨_, hol', rfl, nl, rfl⟩
        unfold Builtin.«set.__init__» noKeywords Builtin.Frozenset.updateFrom
        generalize hPI : pyIter = PI
        wp_walk
        subst hPI
        refine wpAny_pyIter_list hl1 ?_
        refine wpAny_bind (wpAny_runValue ?_)
        have hlS : l < s.heap.objs.size := Heap.lt_size hol
        have hh3 : A.in1.in1.in1.handled = none := by simp [hh]
        have hneI : l ≠ (s.heap.push { cls := .type "set", dict := none, data := .set #[] 0 (.fresh 0 0 led) }).objs.size := by
          rw [Heap.size_push]
          exact Nat.ne_of_lt (Nat.lt_succ_of_lt hlS)
        have away : s.heap.objs.size ∉ [(s.heap.push { cls := .type "set", dict := none, data := .set #[] 0 (.fresh 0 0 led) }).objs.size, l] := by
          rw [Heap.size_push]
          simp only [List.mem_cons, List.not_mem_nil, or_false, not_or]
          exact ⟨Nat.ne_of_lt (Nat.lt_succ_self _), Nat.ne_of_gt hlS⟩
        refine fill_loop ((Walks.list hh3 _ l hneI items).toS) s.heap.objs.size away (fun i => ns.getD i 0) hi hb (items.size - 0) 0 _ (by omega) (Nat.zero_le _) ⟨⟨_, Heap.get?_push_size _ rfl, rfl, rfl⟩, (hl1.push _)⟩ (setM_new led (Heap.get?_push_of_some _ hS)) ?_
        intro s' mv hS'
        obtain ⟨h', g', d', tk', os'⟩ := s'
        have eg : g' = s.gens := mv.gens
        have ed : d' = s.drawn := mv.drawn
        have eo : os' = s.os := mv.os
        subst eg
        subst ed
        subst eo
        show wpAny _ _ _ _ _ _
        refine wpAny_pure ?_
        show wpAny _ _ (ret Value.none) _ _ _
        refine wpAny_pure ⟨rfl, h', tk', rfl, hS', fun b o hb e => ?_⟩
        refine mv.heap b o ?_ (Heap.get?_push_of_some _ (Heap.get?_push_of_some _ e))
        rw [Heap.size_push]
        simp only [List.mem_cons, List.not_mem_nil, or_false, not_or]
        exact ⟨Nat.ne_of_lt hb, Nat.ne_of_lt (Nat.lt_succ_of_lt hb)⟩
      · cases r2 with
        | error e => exact hr2
        | ok fl2 =>
          cases fl2 with
          | ret r =>
            obtain ⟨rfl, h', tk, rfl, hS', hk'⟩ := hr2
            repeat (any_goals (first | assumption | wp_step))
            exact h _ _ hS' hk'
          | _ => exact hr2.elim
    | _ => exact hr.elim
end
end
end Tp
end
section
set_option Elab.async false
set_option linter.all false
set_option maxRecDepth 100000
set_option maxHeartbeats 4000000
namespace Tp
open PySem PySem.Spec PyProof.Rows L2
section
def vN (l : List Nat) : List V := l.map fun n : Nat => V.int (n : Int)
theorem vN_length (l : List Nat) : (vN l).length = l.length := List.length_map ..
theorem vN_append (l m : List Nat) : vN (l ++ m) = vN l ++ vN m := List.map_append ..
theorem vN_get {l : List Nat} {i n : Nat} (h : l[i]? = some n) : (vN l)[i]? = some (.int n) := by
  unfold vN
  rw [List.getElem?_map, h] <;> rfl
theorem of_vN {l : List Nat} {i : Nat} {x : V} (h : (vN l)[i]? = some x) : ∃ n, l[i]? = some n ∧ x = .int n := by
  unfold vN at h
  rw [List.getElem?_map] at h
  cases e : l[i]? with
  | none =>
    rw [e] at h
    cases h
  | some n =>
    rw [e] at h
    exact ⟨n, rfl, (Option.some.inj h).symm⟩
theorem of_vI {l : List Int} {i : Nat} {x : V} (h : (l.map V.int)[i]? = some x) : ∃ n, l[i]? = some n ∧ x = .int n := by
  rw [List.getElem?_map] at h
  cases e : l[i]? with
  | none =>
    rw [e] at h
    cases h
  | some n =>
    rw [e] at h
    exact ⟨n, rfl, (Option.some.inj h).symm⟩
theorem of_vR {l : List Addr} {i : Nat} {x : V} (h : (l.map V.ref)[i]? = some x) : ∃ a, l[i]? = some a ∧ x = .ref a := by
  rw [List.getElem?_map] at h
  cases e : l[i]? with
  | none =>
    rw [e] at h
    cases h
  | some n =>
    rw [e] at h
    exact ⟨n, rfl, (Option.some.inj h).symm⟩
theorem vN_eq (l : List Nat) : vN l = (l.map fun n : Nat => (n : Int)).map V.int := by
  unfold vN
  rw [List.map_map] <;> rfl
/-- one item more -/
theorem take_more {α : Type} {l : List α} {i : Nat} {x : α} (h : l[i]? = some x) : l.take (i + 1) = l.take i ++ [x] := by
  obtain ⟨hi, e⟩ := List.getElem?_eq_some_iff.mp h
  rw [List.take_add_one, List.getElem?_eq_getElem hi, e] <;> rfl
theorem atN {xs : List V} {i : Nat} {v : V} (h : xs[i]? = some v) : atI xs (i : Int) = some v := atI_nat h
theorem pair_len {α β : Type} {F : α → β → Prop} {l : List α} {m : List β} (h : Paired F l m) : l.length = m.length := Paired.length h
theorem pair_get {α β : Type} {F : α → β → Prop} : ∀ {l : List α} {m : List β}, Paired F l m → ∀ {i : Nat} {b : β}, m[i]? = some b → ∃ a, l[i]? = some a ∧ F a b
  | _, _, .nil, _, _, h => by cases h
  | _, _, .cons r t, 0, _, h => by
    cases h
    exact ⟨_, rfl, r⟩
  | _, _, .cons r t, i + 1, _, h => pair_get t (i := i) h
theorem pair_append {α β : Type} {F : α → β → Prop} : ∀ {l l' : List α} {m m' : List β}, Paired F l m → Paired F l' m' → Paired F (l ++ l') (m ++ m')
  | _, _, _, _, .nil, h => h
  | _, _, _, _, .cons r t, h => .cons r (pair_append t h)
/-! ### heaps -/
/-- all that was tracked is as it was, but at the addresses of S -/
def Keep (S : List Addr) (H H' : Hp) : Prop := ∀ b o, H b = some o → b ∉ S → H' b = some o
theorem Keep.refl {S : List Addr} {H : Hp} : Keep S H H := fun _ _ h _ => h
theorem Keep.trans {S : List Addr} {H H1 H2 : Hp} (a : Keep S H H1) (b : Keep S H1 H2) : Keep S H H2 := fun c o h n => b c o (a c o h n) n
theorem Keep.mono {S S' : List Addr} {H H' : Hp} (a : Keep S H H') (h : ∀ b ∈ S, b ∈ S') : Keep S' H H' := fun c o e n => a c o e fun z => n (h c z)
theorem Keep.of {S : List Addr} {H H' : Hp} (a : Same H H') : Keep S H H' := fun c o h _ => a c o h
theorem Same.of {H H' : Hp} (a : Keep [] H H') : Same H H' := fun c o h => a c o h (fun z => nomatch z)
theorem Same.new {H : Hp} {p : Addr} {o : HO} (h : H p = none) : Same H (upd H p o) := fun a u e => by
  rw [upd_ne (ne_of_none e h)]
  exact e
/-- what the first heap does not know may change -/
theorem Same.mut {H H' : Hp} {p : Addr} {o : HO} (e : Same H H') (h : H p = none) : Same H (upd H' p o) := fun a u ha => by
  rw [upd_ne (ne_of_none ha h)]
  exact e a u ha
theorem Keep.upd {S : List Addr} {H H' : Hp} {p : Addr} {o : HO} (e : Keep S H H') (h : p ∈ S ∨ H p = none) : Keep S H (L2.upd H' p o) := fun a u ha n => by
  rcases h with h | h
  · rw [upd_ne fun z => n (by rw [z]; exact h)]
    exact e a u ha n
  · rw [upd_ne (ne_of_none ha h)]
    exact e a u ha n
theorem Same.seqT {K : PySem.W.Frag} {H H' : Hp} {a : Addr} {xs : List V} (e : Same H H') (h : SqT K H a xs) : SqT K H' a xs := by
  rcases h with (h | ⟨o, h⟩) | h
  · exact .inl (.inl (e _ _ h))
  · exact .inl (.inr ⟨o, e _ _ h⟩)
  · exact .inr h
/-! ### a plan in the heap -/
def gI : Option Nat → Int
  | none => -1
  | some g => g
def GroupAt (K : PySem.W.Frag) (H : Hp) (a : Addr) (g : Vatsld.Group) : Prop := ∃ dx nm, H a = some (.ins (He.ga K "Group") dx [("name", .ref nm), ("cost", .int g.setup)]) ∧ H nm = some (.tup (vN g.name))
def TestAt (K : PySem.W.Frag) (H : Hp) (a : Addr) (j : Vatsld.Job) : Prop := ∃ dx nm b, H a = some (.ins (He.ga K "Test") dx [("name", .ref nm), ("cost", .int j.cost), ("chance", .int j.chance), ("group", .int (gI j.group)), ("behind", .ref b)]) ∧
  H nm = some (.tup (vN j.name)) ∧ H b = some (.lst (vN j.after_))
/-- a test whose list of those behind is neither of two -/
def TestOff (K : PySem.W.Frag) (H : Hp) (g t a : Addr) (j : Vatsld.Job) : Prop := ∃ dx nm b, H a = some (.ins (He.ga K "Test") dx [("name", .ref nm), ("cost", .int j.cost), ("chance", .int j.chance), ("group", .int (gI j.group)), ("behind", .ref b)]) ∧
  H nm = some (.tup (vN j.name)) ∧ H b = some (.lst (vN j.after_)) ∧ b ≠ g ∧ b ≠ t
theorem TestOff.at_ {K : PySem.W.Frag} {H : Hp} {g t a : Addr} {j : Vatsld.Job} (h : TestOff K H g t a j) : TestAt K H a j := by
  obtain ⟨dx, nm, b, h1, h2, h3, _⟩ := h
  exact ⟨dx, nm, b, h1, h2, h3⟩
/-- its lists at g and t -/
structure PlanL (K : PySem.W.Frag) (H : Hp) (a g t : Addr) (gs ts : List Addr) (p : Vatsld.Plan) : Prop where
  at_ : ∃ dx, H a = some (.ins (He.ga K "Plan") dx [("groups", .ref g), ("tests", .ref t)])
  hg : H g = some (.lst (gs.map V.ref))
  ht : H t = some (.lst (ts.map V.ref))
  pg : Paired (GroupAt K H) gs p.groups
  pt : Paired (TestOff K H g t) ts p.jobs
  ne : g ≠ t
def PlanAt (K : PySem.W.Frag) (H : Hp) (a : Addr) (p : Vatsld.Plan) : Prop := ∃ g t gs ts, PlanL K H a g t gs ts p
section
variable {K : PySem.W.Frag} {H H' : Hp} {a g t : Addr} {gs ts : List Addr} {p : Vatsld.Plan}
theorem GroupAt.same {x : Vatsld.Group} (e : Same H H') (h : GroupAt K H a x) : GroupAt K H' a x := by
  obtain ⟨dx, nm, h1, h2⟩ := h
  exact ⟨dx, nm, e _ _ h1, e _ _ h2⟩
theorem TestAt.same {x : Vatsld.Job} (e : Same H H') (h : TestAt K H a x) : TestAt K H' a x := by
  obtain ⟨dx, nm, b, h1, h2, h3⟩ := h
  exact ⟨dx, nm, b, e _ _ h1, e _ _ h2, e _ _ h3⟩
theorem TestOff.same {x : Vatsld.Job} {g t : Addr} (e : Same H H') (h : TestOff K H g t a x) : TestOff K H' g t a x := by
  obtain ⟨dx, nm, b, h1, h2, h3, h4⟩ := h
  exact ⟨dx, nm, b, e _ _ h1, e _ _ h2, e _ _ h3, h4⟩
theorem PlanL.same (e : Same H H') (h : PlanL K H a g t gs ts p) : PlanL K H' a g t gs ts p := by
  obtain ⟨⟨dx, h1⟩, h2, h3, h4, h5, h6⟩ := h
  exact ⟨⟨dx, e _ _ h1⟩, e _ _ h2, e _ _ h3, Paired.mapP h4 fun _ _ q => q.same e, Paired.mapP h5 fun _ _ q => q.same e, h6⟩
theorem PlanAt.same (e : Same H H') (h : PlanAt K H a p) : PlanAt K H' a p := by
  obtain ⟨g, t, gs, ts, h⟩ := h
  exact ⟨g, t, gs, ts, h.same e⟩
theorem PlanL.lenT (h : PlanL K H a g t gs ts p) : ts.length = p.jobs.length := pair_len h.pt
theorem PlanL.lenG (h : PlanL K H a g t gs ts p) : gs.length = p.groups.length := pair_len h.pg
/-- the i-th test -/
theorem PlanL.test (h : PlanL K H a g t gs ts p) {i : Nat} {j : Vatsld.Job} (e : p.jobs[i]? = some j) : ∃ x, (ts.map V.ref)[i]? = some (.ref x) ∧ TestAt K H x j := by
  obtain ⟨x, h1, h2⟩ := pair_get h.pt e
  exact ⟨x, by rw [List.getElem?_map, h1] <;> rfl, h2.at_⟩
theorem PlanL.group (h : PlanL K H a g t gs ts p) {i : Nat} {j : Vatsld.Group} (e : p.groups[i]? = some j) : ∃ x, (gs.map V.ref)[i]? = some (.ref x) ∧ GroupAt K H x j := by
  obtain ⟨x, h1, h2⟩ := pair_get h.pg e
  exact ⟨x, by rw [List.getElem?_map, h1] <;> rfl, h2⟩
end
theorem jobAt_of {p : Vatsld.Plan} {i : Nat} {j : Vatsld.Job} (h : p.jobs[i]? = some j) : Vatsld.jobAt p i = j := by
  unfold Vatsld.jobAt
  rw [List.getD_eq_getElem?_getD, h] <;> rfl
theorem job_get {p : Vatsld.Plan} {i : Nat} (h : i < p.jobs.length) : p.jobs[i]? = some (Vatsld.jobAt p i) := by
  unfold Vatsld.jobAt
  rw [List.getD_eq_getElem?_getD, List.getElem?_eq_getElem h] <;> rfl
end
section
section
variable {X : Cx} {pins : List (Addr × Obj)} {σ : L2.St} {H : Hp} {s : Shared}
/-- the exception's dict, told as one -/
theorem retag {d : Addr} {fs : List (Str × V)} (I : Inv X pins σ H s) (hd : H d = some (exd d fs)) : Inv X pins σ (upd H d (.xd fs)) s := by
  have nn : ∀ b, H b = none → b ≠ d := fun b n z => by
    rw [z, hd] at n
    cases n
  have ne : ∀ b u, H b = some u → u ≠ exd d fs → b ≠ d := fun b u e q z => by
    rw [z, hd] at e
    exact q (Option.some.inj e).symm
  refine ⟨I.ok, I.os, I.bare, ⟨I.base.keep, I.base.slot, fun b o e n hx => ?_, I.base.there, fun b xs e => ?_, fun b o u e => ?_, fun b ps e => ?_⟩, I.loc, I.cell, ?_, fun x c e => ?_, fun p hp => ?_, fun b u e => ?_, I.len⟩
  · have q := I.base.free b o e n hx
    rw [upd_ne (nn b q)]
    exact q
  · have q := I.base.tups b xs e
    rw [upd_ne (ne b _ q fun z => by cases z)]
    exact q
  · have q := I.base.frzs b o u e
    rw [upd_ne (ne b _ q fun z => by cases z)]
    exact q
  · obtain ⟨m, q⟩ := I.base.tbls b ps e
    refine ⟨m, ?_⟩
    rw [upd_ne (ne b _ q fun z => by cases z)]
    exact q
  · rw [upd_ne (nn _ I.free)]
    exact I.free
  · rw [upd_ne (nn _ (I.freeC x c e))]
    exact I.freeC x c e
  · obtain ⟨q1, q2, q3⟩ := I.pin p hp
    refine ⟨q1, ?_, q3⟩
    rw [upd_ne (nn _ q2)]
    exact q2
  · by_cases hb : b = d
    · subst hb
      rw [upd_same] at e
      cases e
      exact (I.hok b _ hd).1
    · rw [upd_ne hb] at e
      refine (I.hok b u e).stay (fun c v _ q => q) (fun c q => ?_) fun c xs q => ?_
      · rw [upd_ne (ne c _ q fun z => by cases z)]
        exact q
      · rw [upd_ne (ne c _ q fun z => by cases z)]
        exact q
/-- raise of a value that is a new exception of one's own, with fields -/
theorem pmk_val {C : Addr} {e : Expr} {te : TE} {Z W : Prop} (o : OexC X.K C ∧ Z ∧ W) (hx : X.ex = []) (he : PE X e te) :
    PMk X e (fun σ H Q => te σ H fun x H1 => ∃ a d fs, x = .ref a ∧ H1 a = some (exo a C (some d)) ∧ H1 d = some (exd d fs) ∧ Fr0 X.H_0 a ∧ Q (.ref C) (some d) (upd (delH H1 a) d (.xd fs))) := by
  intro pins s σ H Q I h
  refine wpAny_mono (he.run pins s σ H _ I h) (fun u s1 hu => ?_) fun _ _ x => x
  obtain ⟨v, H1, I1, r1, a, d, fs, rfl, ha, hd, h0, q⟩ := hu
  cases r1
  obtain ⟨⟨t1, ho⟩, _, _⟩ := I1.hok a _ ha
  have hda : d ≠ a := fun z => by
    obtain ⟨⟨mA, ⟨o, es, ep, e1, e2, _⟩, _⟩, _⟩ := I1.hok d _ hd
    rw [z, ho] at e1
    have z2 := Option.some.inj e1
    subst z2
    cases e2
  obtain ⟨G, gs, ga, J⟩ := I1.untrack ha h0 hx
  have J2 : Inv X pins σ (upd (delH H1 a) d (.xd fs)) { s1 with heap := G } := retag J (by rw [delH_ne hda]; exact hd)
  exact ⟨a, _, _, { s1 with heap := G }, _, .ref C, some d, rfl, J2, gs, ga, ho, ⟨rfl, rfl⟩, rfl, rfl, by rw [upd_ne (Ne.symm hda), delH_same], rfl, I1.bare, raises_own o.1.exC o.1.tyC, q⟩
/-- C(e, ..) as a value: a new exception, its fields by C's own __init__ -/
def tOx (C : Addr) (sp : Sp) (ta : TA) : TE := fun σ H Q => ta σ H fun vs H1 => vs.length ≤ 1000 ∧ ∀ a, H1 a = none → sp (.ref a :: vs) (upd H1 a (exo a C none)) (fun v H2 => v = .non ∧ Q (.ref a) H2) (fun _ _ _ => False)
/-- what is known of an exception's class and of its __init__ -/
def Oxi (P : Program) (w : World) (K : PySem.W.Frag) (mg : Str → Option Value) (base : Heap) (k : Nat) (x : Str) (sp : Sp) : Prop :=
  ∃ (fd : FuncData) (ps : List Str), FnOk P w K mg base (L2.CX P w) k (He.ma K (He.ga K x) "__init__") fd ps sp ∧ Binds K fd ps []
theorem pe_oex {k j : Nat} {x : Str} {sp : Sp} {es : List Expr} {e : Expr} {ta : TA} {p pos : Pos} {Z : Prop}
    (o : OexC X.K (He.ga X.K x) ∧ PySem.W.findIn X.K (.ref (He.ga X.K x)) "__init__" = some (some (.ref (He.ma X.K (He.ga X.K x) "__init__"))) ∧ PySem.W.typeIn X.K (.ref (He.ma X.K (He.ga X.K x) "__init__")) = some (.type "function") ∧ Z)
    (c : Oxi X.prog X.w X.K X.mg X.base k x sp) (hr0 : Room j X.A) (hk : k + 1 ≤ j) (hm : X.mg x = some (.ref (He.ga X.K x))) (ha : PA X (e :: es) ta) (hg : Gl X x := by rfl)
    (hdb : (x == ("__debug__" : Str)) = false := by decide) (he : starEach (e :: es) X.env = (false, eval e X.env) :: starEach es X.env := by rfl) (hpl : (backTo pos (starEach es X.env)).any (·.1) = false := by rfl) :
    PE X (.Call (.Name x p) (e :: es) [] pos) (tOx (He.ga X.K x) sp ta) := by
  obtain ⟨T, iC, tI, _⟩ := o
  obtain ⟨fd, ps, F1, hb⟩ := c
  have hr := hr0.mono hk
  refine ⟨fun pins s σ H Q I h => ?_⟩
  obtain ⟨nm, q, N, bs, bm, sn, sub, ab, col, dd, k0, k1, k2, k3, k5, hC, hbm⟩ := T.cls
  refine wpAny_Call_Name_kw (ld_glob I hg hm ?_ hdb)
  refine PySem.W.callWith_K (h₀ := X.base) I.ok.mod.kin T.kC (thn (ha.run pos pins s σ H _ I h) fun us s1 ⟨vs, H1, I1, r1, hz, q1⟩ => ⟨I1.kIn, ?_⟩) he hpl
  show wpAny _ _ (call (.ref (He.ga X.K x)) us) _ _ _
  obtain ⟨hp, g, dr, tk, os⟩ := s1
  have lt : hp.objs.size ≤ hp.objs.size + 1 := Nat.le_succ _
  have hq := q1 (hp.objs.size + 1) (I1.hok.fresh lt)
  have old : ∀ b ob, hp.get? b = some ob → ((hp.push (PySem.W.kdv_tup us)).push (PySem.HandSPX.excO (He.ga X.K x) hp.objs.size)).get? b = some ob := fun b ob z => Heap.get?_push_of_some _ (Heap.get?_push_of_some _ z)
  have new : ((hp.push (PySem.W.kdv_tup us)).push (PySem.HandSPX.excO (He.ga X.K x) hp.objs.size)).get? (hp.objs.size + 1) = some (PySem.HandSPX.excO (He.ga X.K x) hp.objs.size) := by heap_get
  have I2 := I1.laid (t' := tk) (a := hp.objs.size + 1) (o := exo (hp.objs.size + 1) (He.ga X.K x) none) (h' := (hp.push (PySem.W.kdv_tup us)).push (PySem.HandSPX.excO (He.ga X.K x) hp.objs.size)) old lt (exo_ok new)
  have r2 : Vals (V.ref (hp.objs.size + 1) :: vs) (Value.ref (hp.objs.size + 1) :: us) := .cons rfl r1
  have len : (Value.ref (hp.objs.size + 1) :: us).length = ps.length := by
    have z := r2.length
    rw [F1.len _ _ _ _ hq] at z
    exact z.symm
  have small : us.length ≤ sizeLine := by
    rw [← Paired.length r1, sizeLine_eq]
    omega
  have bd := hb _ (Value.ref (hp.objs.size + 1) :: us) I2.kIn (by rw [List.append_nil]; exact len)
  rw [List.append_nil] at bd
  refine wpAny_call (PySem.HandSPX.call_own F.excBase_ValueError (fun Y => PySem.HandSPX.refsVE_contains Y bm hbm) (I1.kIn _ _ hC) (PySem.W.looks_findIn I1.kIn iC) (fun self => PySem.W.bind_fn I1.kIn self tI) small
    (codeAny_mono (F1.run _ X.stack _ _ ⟨Value.ref (hp.objs.size + 1) :: us, []⟩ (Value.ref (hp.objs.size + 1) :: us) _ _ (fun _ _ _ => False) (hr.make _ us []) (I2.env0.make _ us []) bd r2 hq) fun r s' z => ?_))
  cases r with
  | error er => exact (by obtain ⟨_, _, _, _, _, _, _, _, _, _, _, _, y⟩ := z; exact y.elim)
  | ok fl =>
    cases fl with
    | ret u =>
      obtain ⟨v, H2, os2, bare2, un2, hok2, rv, ev, q2⟩ := z
      subst ev
      refine ⟨rv, ?_⟩
      exact ⟨.ref (hp.objs.size + 1), H2, I2.call' (ch := []) os2 un2 hok2 bare2 (fun b y => absurd y (by simp)), rfl, q2⟩
    | next => exact False.elim z
    | brk => exact False.elim z
    | cont => exact False.elim z
/-- raise C(e, ..) -/
theorem pmk_ox {k j : Nat} {x : Str} {sp : Sp} {es : List Expr} {e : Expr} {ta : TA} {p pos : Pos} {Z : Prop}
    (o : OexC X.K (He.ga X.K x) ∧ PySem.W.findIn X.K (.ref (He.ga X.K x)) "__init__" = some (some (.ref (He.ma X.K (He.ga X.K x) "__init__"))) ∧ PySem.W.typeIn X.K (.ref (He.ma X.K (He.ga X.K x) "__init__")) = some (.type "function") ∧ Z)
    (c : Oxi X.prog X.w X.K X.mg X.base k x sp) (hr : Room j X.A) (hk : k + 1 ≤ j) (hm : X.mg x = some (.ref (He.ga X.K x))) (ha : PA X (e :: es) ta) (hg : Gl X x := by rfl)
    (hdb : (x == ("__debug__" : Str)) = false := by decide) (he : starEach (e :: es) X.env = (false, eval e X.env) :: starEach es X.env := by rfl) (hpl : (backTo pos (starEach es X.env)).any (·.1) = false := by rfl) :
    PMk X (.Call (.Name x p) (e :: es) [] pos) (tMkO (He.ga X.K x) sp [] ta) := by
  obtain ⟨T, iC, tI, _⟩ := o
  obtain ⟨fd, ps, F1, hb⟩ := c
  exact pmk_oex T iC tI F1 (hr.mono hk) hb .nil passL hg hm ha hdb he hpl
/-- a def called within a try: what it raises is wished for at the slots as they stand -/
theorem pe_cS {k j : Nat} {x : Str} {sp : Sp} {es : List Expr} {e : Expr} {t : TA} {p pos : Pos} {E : L2.St → XK} (c : Cal X.prog X.w X.K X.mg X.base k x sp) (hr : Room j X.A) (hk : k ≤ j) (hx : ∀ σ, PassesAt (L2.CX X.prog X.w) X σ (E σ)) (ha : PA X (e :: es) t) (hg : Gl X x := by rfl)
    (hdb : (x == ("__debug__" : Str)) = false := by decide) (he : starEach (e :: es) X.env = (false, eval e X.env) :: starEach es X.env := by rfl) (hpl : (backTo pos (starEach es X.env)).any (·.1) = false := by rfl) :
    PE X (.Call (.Name x p) (e :: es) [] pos) (tCallS sp E t) := by
  obtain ⟨f, fd, ps, F, hm, kp, b⟩ := c
  exact pe_callS F (hr.mono hk) hg hm kp b hx ha hdb he hpl
end
end
section
section
variable {prog : Program} {w : World} {A : Around} {E : Value → Shared → Prop} {s : Shared}
/-- what extend does with a tuple -/
theorem extend_tup {l t : Addr} {its us : List Value} {n : Nat} {r : Value} {Q : Fin → Shared → Prop} (hl : s.heap.get? l = some { cls := .type "list", data := .seq its.toArray n }) (ht : IsTup s.heap t us.toArray)
    (hz : its.length + us.length ≤ sizeLine) (h : Q (.done (.ret r)) { s with heap := s.heap.update l (Obj.mapSeq (· ++ us.toArray)) }) :
    wpAny (model prog w) A (Builtin.List.listExtendWith (.ref l) (.ref t) r) Q E s := by
  obtain ⟨o, ho, hc, m, hd⟩ := ht
  unfold Builtin.List.listExtendWith
  refine wpAny_bind (wpAny_typeOf (T := "tuple") ⟨o, ho, hc⟩ ?_)
  have e1 : (Value.type "tuple" == Value.type "tuple") = true := by rfl
  rw [if_pos (by rw [e1]; simp)]
  refine wpAny_bind (listItems_at ho hd ?_)
  refine wpAny_bind (listItems_at hl rfl ?_)
  rw [if_neg (by
    rw [notLongL (n := its.toArray.size + us.toArray.size) (by simpa using hz), Bool.and_false]
    exact Bool.false_ne_true)]
  refine wpAny_bind (listUpdate_at hl rfl ?_ (by rw [List.size_toArray]; omega) (by show (its.toArray ++ us.toArray).size ≤ sizeLine + 1; rw [Array.size_append, List.size_toArray, List.size_toArray]; omega))
  exact wpAny_pure h
/-- list(a tuple), as sorted collects it -/
theorem collect_tup {t : Addr} {vs : List Value} {Q : List Value → Shared → Prop} (ht : IsTup s.heap t vs.toArray) (hz : vs.length ≤ sizeLine)
    (h : Q vs { s with heap := (s.heap.push (seqObj "list" #[] 0)).update s.heap.objs.size (Obj.mapSeq (· ++ vs.toArray)) }) :
    wpAny (model prog w) A (collect (.ref t)) Q E s := by
  unfold collect
  refine wpAny_bind (wpAny_runValue (codeAny_builtin entry_proto_collect' ?_))
  show wpAny _ _ (do again (.builtin "list.__iadd__" ⟨[← newList [], .ref t], []⟩)) _ _ s
  refine wpAny_bind (wpAny_newList (wpAny_pure ⟨Code.quiet_builtin _ (by decide +kernel), codeAny_builtin entry_list_iadd' ?_⟩))
  show wpAny _ _ (Builtin.List.listExtendWith (.ref s.heap.objs.size) (.ref t) (.ref s.heap.objs.size)) _ _ { s with heap := s.heap.push (seqObj "list" #[] 0) }
  refine extend_tup (its := []) (us := vs) (n := 0) (Heap.get?_push_size _ rfl) (ht.keeps fun b o z => Heap.get?_push_of_some _ z) (by simpa using hz) ?_
  show wpAny (model prog w) A (do
      let o ← load s.heap.objs.size
      match o.data with
      | .seq xs _ => pure xs.toList
      | _ => unsupported "internal:collect") Q E _
  refine wpAny_bind (wpAny_load (get?_update_seq (Heap.get?_push_size _ rfl) _) ?_)
  have e : ((#[] : Array Value) ++ vs.toArray).toList = vs := by simp
  show wpAny _ _ (pure ((#[] : Array Value) ++ vs.toArray).toList) Q E _
  rw [e]
  exact wpAny_pure h
/-- sorted(t), t a tuple of ints -/
theorem sorted_tupI {t : Addr} {vs : List Value} {ns : List Int} {Q : Value → Shared → Prop} (ht : IsTup s.heap t vs.toArray) (hz : vs.length ≤ sizeLine) (hI : IntsAre vs ns)
    (h : ∀ out : List Value, SrtO.Srtd SrtO.ltIv out → SrtO.Stb SrtO.ltIv out vs → Q (.ref (s.heap.objs.size + 1)) { s with heap := sortedAll s.heap vs out.toArray }) :
    wpAny (model prog w) A (call (.builtin "sorted") [.ref t]) Q E s := by
  refine Calls.call_function_entry kind_sorted plain_sorted entry_sorted (args_sorted1 _) ?_
  unfold Builtin.«sorted»
  refine wpAny_bind (m := checkCount "sorted" 1 1 _) (wpAny_pure ?_)
  refine wpAny_bind (collect_tup ht hz ?_)
  refine wpAny_bind (wpAny_newList ?_ hz)
  have sz : ((s.heap.push (seqObj "list" #[] 0)).update s.heap.objs.size (Obj.mapSeq (· ++ vs.toArray))).objs.size = s.heap.objs.size + 1 := by
    rw [Heap.size_update, size_push']
  have oL : (((s.heap.push (seqObj "list" #[] 0)).update s.heap.objs.size (Obj.mapSeq (· ++ vs.toArray))).push (seqObj "list" vs.toArray 0)).get? (s.heap.objs.size + 1) = some (seqObj "list" vs.toArray 0) := by
    rw [← sz]
    exact Heap.get?_push_size _ rfl
  show wpAny _ _ _ _ _ { s with heap := ((s.heap.push (seqObj "list" #[] 0)).update s.heap.objs.size (Obj.mapSeq (· ++ vs.toArray))).push (seqObj "list" vs.toArray 0) }
  rw [sz]
  refine wpAny_bind (wpAny_holding (wpAny_call_entry slot_list_sort ⟨_, oL, rfl⟩ entry_list_sort
    (SrtO.list_sort_ord SrtO.swo_int oL hz (fun h2 => SrtO.ints_sortable hI h2) fun out q1 q2 => ⟨_, rfl, ?_⟩) (args_list_sort _)))
  exact wpAny_pure ⟨_, rfl, h out q1 q2⟩
end
section
variable {X : Cx}
/-- xs.extend(t), t a tuple -/
def rExtendT (K : PySem.W.Frag) : V → List V → Hp → VK → Prop := fun x vs H Q => ∃ l b xs zs, x = .ref l ∧ vs = [.ref b] ∧ H l = some (.lst xs) ∧ SqT K H b zs ∧ xs.length + zs.length ≤ sizeLine ∧ Q .non (upd H l (.lst (xs ++ zs)))
theorem mt_extendT : MtM X "list.extend" (rExtendT X.K) := by
  intro pins s σ H x vs v us Q I rx rv h
  obtain ⟨l, b, xs, zs, rfl, rfl, hH, hB, hz, q⟩ := h
  cases rx
  obtain ⟨u, rfl, ru⟩ := rv.one
  cases ru
  obtain ⟨z, its, n, r, hl, e⟩ := I.lstM hH
  obtain ⟨its2, r2, p2, _⟩ := I.tuple hB
  have hl2 := r2.length
  refine wpAny_call_entry F.slot_list_extend ⟨_, e, rfl⟩ F.entry_list_extend ?_ (F.args_list_extend_2 _ _)
  show wpAny _ _ (Builtin.List.listExtendWith (.ref l) (.ref b) .none) _ _ s
  refine extend_tup e p2 (by omega) ⟨_, rfl, ?_⟩
  refine ⟨.non, _, I.lset (its' := its ++ its2) (t' := s.toks) hH e (by simp) (r.append r2) ?_, rfl, q⟩
  rw [List.length_append]
  omega
/-- sorted(t), t a tuple of ints -/
def rSortedTI (K : PySem.W.Frag) : List V → Hp → VK → Prop := fun vs H Q => ∃ (a : Addr) (ns : List Int), vs = [V.ref a] ∧ SqT K H a (ns.map V.int) ∧
  ∀ (ns' : List Int) (p : Addr), ns'.Perm ns → ns'.Pairwise (· ≤ ·) → H p = none → Q (.ref p) (upd H p (.lst (ns'.map V.int)))
theorem cr_sortedTI : CallR X (.builtin "sorted") (rSortedTI X.K) := by
  intro pins s σ H vs us Q I r h
  obtain ⟨a, ns, rfl, hs, q⟩ := h
  obtain ⟨its, rv, hl, hz⟩ := I.tuple hs
  rw [Vals.ref1 r]
  have hi := rv.ints
  refine sorted_tupI hl (by rw [← rv.length]; exact hz) hi fun out h1 h2 => ?_
  obtain ⟨k1, k2, k3⟩ := SrtO.ints_out hi h1 h2
  obtain ⟨ep, he'⟩ := PyProof.Rows.sortedAll_at s.heap its out.toArray
  have small : ((out.map SrtO.iv).map V.int).length ≤ sizeLine := by
    rw [List.length_map, k2.length_eq]
    rw [List.length_map] at hz
    exact hz
  exact ⟨.ref _, upd H (s.heap.objs.size + 1) (.lst ((out.map SrtO.iv).map V.int)), I.laid (t' := s.toks) (fun _ _ => PyProof.Rows.sortedAll_old) (Nat.le_succ _) ⟨small, out, ep, vals_of_ints k1, he'⟩, rfl, q _ _ k2 k3 (I.hok.fresh (Nat.le_succ _))⟩
/-! ### min of pairs -/
theorem reads_int {h : Heap} {i j : Int} {t : Tok} {as : List Addr} (x : Reads h (.int i t) (.int j) as) : i = j := by
  cases x
  rfl
abbrev PairT (K : PySem.W.Frag) (H : Hp) (r : Addr) (p : Int × Int) : Prop := SqT K H r [.int p.1, .int p.2]
theorem dpPairs {K : PySem.W.Frag} {H : Hp} : ∀ {rs : List Addr} {ps : List (Int × Int)}, Paired (PairT K H) rs ps → DpAll K H (rs.map V.ref) (ps.map PySem.W.Datum.toD)
  | _, _, .nil => .nil
  | _, _, .cons h t => .cons (.tup h (.cons (.int _) (.cons (.int _) .nil))) (dpPairs t)
/-- min(xs), xs a list of pairs of ints, not empty -/
def rMinT (K : PySem.W.Frag) : List V → Hp → VK → Prop := fun vs H Q => ∃ (a : Addr) (rs : List Addr) (x : Int × Int) (xs : List (Int × Int)), vs = [V.ref a] ∧ SqL K H a (rs.map V.ref) ∧ Paired (PairT K H) rs (x :: xs) ∧
  ∀ r, PairT K H r (PySem.W.minOf x xs) → Q (.ref r) H
theorem cr_minT {k : Nat} (hc : X.calm = true) (hr : Room k X.A) : CallR X (.builtin "min") (rMinT X.K) := by
  intro pins s σ H vs us Q I r h
  obtain ⟨a, rs, x, xs, rfl, hs, hp, q⟩ := h
  obtain ⟨its, rv, hl, _⟩ := I.list hs
  rw [Vals.ref1 r]
  obtain ⟨as, rd⟩ := Dp.readsAll I _ _ _ (dpPairs hp) rv
  refine PySem.W.min_list_datum (α := Int × Int) (x := x) (xs := xs) (I.ok.hd hc) hl.isList ⟨as, by simpa using rd⟩ ?_ fun i v h' tk hv hh hk => ?_
  · have z := hr.units
    show X.A.units + 1 + PySem.W.Datum.depth (Int × Int) < cLine
    have e : PySem.W.Datum.depth (Int × Int) ≤ 8 := by decide
    omega
  · have J : Inv X pins σ H { s with heap := h', toks := tk } := I.kept hk
    have hv2 : its[i]? = some v := by simpa using hv
    obtain ⟨y, hy⟩ : ∃ y, (rs.map V.ref)[i]? = some y ∧ RelV y v := by
      cases e : (rs.map V.ref)[i]? with
      | none =>
        rw [rv.none_of e] at hv2
        cases hv2
      | some y =>
        obtain ⟨u, h1, h2⟩ := rv.get e
        rw [hv2] at h1
        cases h1
        exact ⟨y, rfl, h2⟩
    obtain ⟨hy1, hy2⟩ := hy
    rw [List.getElem?_map] at hy1
    cases e : rs[i]? with
    | none =>
      rw [e] at hy1
      cases hy1
    | some b =>
      rw [e] at hy1
      cases hy1
      cases hy2
      obtain ⟨p, hpp⟩ : ∃ p, PairT X.K H b p := by
        have hlen := Paired.length hp
        obtain ⟨hi, _⟩ := List.getElem?_eq_some_iff.mp e
        obtain ⟨p, h1, h2⟩ := paired_get hp e
        exact ⟨p, h2⟩
      obtain ⟨its2, rv2, hl2, _⟩ := J.tuple hpp
      obtain ⟨o2, ho2, hc2, n2, hd2⟩ := hl2
      obtain ⟨bs, hrd⟩ := hh
      have same : p = PySem.W.minOf x xs := by
        have hrd' : Reads h' (.ref b) (.tuple [.int (PySem.W.minOf x xs).1, .int (PySem.W.minOf x xs).2]) bs := hrd
        cases hrd' with
        | tuple ho hc' hd ha =>
          have eo : some o2 = some _ := ho2.symm.trans ho
          cases eo
          rw [hd2] at hd
          cases hd
          have rv3 : Vals [V.int p.1, V.int p.2] its2 := rv2
          cases rv3 with
          | cons r1 r2 =>
            cases r2 with
            | cons r3 r4 =>
              cases r4
              obtain ⟨t1, rfl⟩ := r1
              obtain ⟨t2, rfl⟩ := r3
              have ha2 : ReadsAll h' [Value.int p.1 t1, Value.int p.2 t2] [.int (PySem.W.minOf x xs).1, .int (PySem.W.minOf x xs).2] bs := ha
              cases ha2 with
              | cons q1 q2 =>
                cases q2 with
                | cons q3 q4 =>
                  have e1 : p.1 = (PySem.W.minOf x xs).1 := reads_int q1
                  have e2 : p.2 = (PySem.W.minOf x xs).2 := reads_int q3
                  exact Prod.ext e1 e2
      exact ⟨.ref b, H, J, rfl, q b (by rw [← same]; exact hpp)⟩
end
end
section
/-- an entry: its key (done, g), where the key's two tuples stand (outer, inner), its value -/
structure Ent where
  done : List Nat
  g : Int
  q : Addr
  r : Addr
  v : Int
def nk (done : List Nat) (g : Int) : NestedKey := .tup [.tup (done.map fun n : Nat => .num (n : Int)), .num g]
theorem num_map_inj : ∀ {a b : List Nat}, (a.map fun n : Nat => NestedKey.num (n : Int)) = (b.map fun n : Nat => NestedKey.num (n : Int)) → a = b
  | [], [], _ => rfl
  | [], _ :: _, h => by cases h
  | _ :: _, [], h => by cases h
  | x :: xs, y :: ys, h => by
    rw [List.map_cons, List.map_cons] at h
    injection h with h1 h2
    injection h1 with h1
    rw [num_map_inj h2, Int.ofNat.inj h1]
theorem nk_inj {a b : List Nat} {g k : Int} : nk a g = nk b k ↔ a = b ∧ g = k := by
  constructor
  · intro h
    unfold nk at h
    injection h with h
    injection h with h1 h2
    injection h1 with h1
    injection h2 with h2 _
    injection h2 with h2
    exact ⟨num_map_inj h1, h2⟩
  · rintro ⟨rfl, rfl⟩
    rfl
def EntRel (e : Ent) (x : NestedKey × Addr × Value) : Prop := x.1 = nk e.done e.g ∧ x.2.1 = e.q ∧ ∃ t, x.2.2 = .int e.v t
def look (es : List Ent) (done : List Nat) (g : Int) : Option Int := (es.find? fun e => decide (e.done = done ∧ e.g = g)).map (·.v)
theorem look_at : ∀ {es : List Ent} {xs : List (NestedKey × Addr × Value)}, Paired EntRel es xs → ∀ (done : List Nat) (g : Int),
    (look es done g = none ∧ atKey xs (nk done g) = none) ∨ ∃ v t q, look es done g = some v ∧ atKey xs (nk done g) = some (q, .int v t)
  | _, _, .nil, _, _ => .inl ⟨rfl, rfl⟩
  | e :: es, x :: xs, .cons r t, done, g => by
    obtain ⟨h1, h2, tk, h3⟩ := r
    unfold look atKey
    rw [List.find?_cons, List.find?_cons]
    by_cases h : e.done = done ∧ e.g = g
    · have hk : x.1 = nk done g := by rw [h1, h.1, h.2]
      rw [decide_eq_true h, decide_eq_true hk]
      refine .inr ⟨e.v, tk, x.2.1, rfl, ?_⟩
      show some (x.2.1, x.2.2) = _
      rw [h3]
    · have hk : ¬ x.1 = nk done g := fun z => h (nk_inj.mp (h1.symm.trans z))
      rw [decide_eq_false h, decide_eq_false hk]
      exact look_at t done g
/-- what is true of the dict's own object -/
def kdP (P : Program) (w : World) (d : Addr) (es : List Ent) (h : Heap) : Prop := ∃ xs, Paired EntRel es xs ∧ ∃ o ds ep, h.get? d = some o ∧ o.ExactDict ∧ o.data = .dict ds ep ∧ ds.toList = xs.map (entryOfKey (nestedKind P w)) ∧ (xs.map (·.1)).Nodup
def kdH (P : Program) (w : World) (d : Addr) (es : List Ent) : HO := .ext (kdP P w d es)
theorem kdH_ok {P : Program} {w : World} {H : Hp} {h : Heap} {d : Addr} {es : List Ent} (x : kdP P w d es h) : ObjOk P w H h d (kdH P w d es) := by
  refine ⟨x, ?_, ?_⟩
  · obtain ⟨xs, _, o, _, _, ho, _⟩ := x
    exact ⟨o, ho⟩
  · rintro h1 h2 ⟨xs, p, o, ds, ep, ho, r⟩ k
    exact ⟨xs, p, o, ds, ep, k o ho, r⟩
structure KDict (P : Program) (w : World) (H : Hp) (d : Addr) (es : List Ent) : Prop where
  at_ : H d = some (kdH P w d es)
  sm : (d == sysModules) = false
  tups : ∀ e ∈ es, H e.q = some (.tup [.ref e.r, .int e.g]) ∧ H e.r = some (.tup (vN e.done))
section
variable {X : Cx} {pins : List (Addr × Obj)} {σ : L2.St} {H : Hp} {s : Shared}
theorem nested_nums {h : Heap} : ∀ {l : List Nat} {us : List Value}, Vals (vN l) us → NestedAll h (l.map fun n : Nat => .num (n : Int)) us
  | [], _, .nil => .nil
  | n :: l, _, .cons r t => by
    obtain ⟨k, rfl⟩ := r
    exact .cons (.int _ _) (nested_nums (l := l) t)
theorem nested_of (I : Inv X pins σ H s) {q r : Addr} {g : Int} {done : List Nat} (h1 : H q = some (.tup [.ref r, .int g])) (h2 : H r = some (.tup (vN done))) : (nestedKind X.prog X.w).is s.heap (nk done g) q := by
  obtain ⟨_, us1, rv1, o1, ho1, hc1, n1, hd1⟩ := I.hok q _ h1
  obtain ⟨_, us2, rv2, o2, ho2, hc2, n2, hd2⟩ := I.hok r _ h2
  refine ⟨.tup ho1 hc1 hd1 ?_, ?_⟩
  · cases rv1 with
    | cons a1 b1 =>
      cases b1 with
      | cons a2 b2 =>
        cases b2
        cases a1
        obtain ⟨t, rfl⟩ := a2
        exact .cons (.tup ho2 hc2 hd2 (by simpa using nested_nums rv2)) (.cons (.int _ _) .nil)
  · have e : ∀ l : List Nat, NestedKey.depthAll (l.map fun n : Nat => .num (n : Int)) = 0 := fun l => by
      induction l with
      | nil => simp [NestedKey.depthAll]
      | cons x l ih => simp [NestedKey.depthAll, NestedKey.depth, ih]
    unfold nk
    simp [NestedKey.depth, NestedKey.depthAll, e]
theorem KDict.ofH (K : KDict X.prog X.w H d es) (I : Inv X pins σ H s) : ∃ xs, Paired EntRel es xs ∧ s.heap.DictOfH (nestedKind X.prog X.w) d xs := by
  obtain ⟨⟨xs, p, o, ds, ep, ho, he, hd, hl, hn⟩, _, _⟩ := I.hok d _ K.at_
  refine ⟨xs, p, o, ds, ep, ho, he, hd, hl, fun x hx => ?_, hn⟩
  obtain ⟨i, hi⟩ := List.mem_iff_getElem?.mp hx
  obtain ⟨e, he1, r1, r2, _⟩ := pair_get p hi
  obtain ⟨t1, t2⟩ := K.tups e (List.mem_of_getElem? he1)
  rw [r1, r2]
  exact nested_of I t1 t2
theorem room8 {k : Nat} {A : Around} (r : Room k A) : A.units + 1 + 8 < cLine := by
  have := r.units
  omega
/-- {} for such keys -/
def tKNew (P : Program) (w : World) : TE := fun _ H Q => ∀ p, H p = none → KDict P w (upd H p (kdH P w p [])) p [] → Q (.ref p) (upd H p (kdH P w p []))
theorem pe_knew {pos : Pos} : PE X (.Dict [] [] pos) (tKNew X.prog X.w) := ⟨fun pins s σ H Q I h => by
  refine wpAny_Dict_empty ?_
  have ok : ObjOk X.prog X.w (upd H s.heap.objs.size (kdH X.prog X.w s.heap.objs.size [])) (s.heap.push { cls := .type "dict", data := .dict #[] }) s.heap.objs.size (kdH X.prog X.w s.heap.objs.size []) :=
    kdH_ok ⟨[], .nil, _, #[], 0, Heap.get?_push_size _ rfl, ⟨rfl, rfl, rfl⟩, rfl, rfl, List.nodup_nil⟩
  refine ⟨.ref s.heap.objs.size, _, I.laid (a := s.heap.objs.size) (o := kdH X.prog X.w s.heap.objs.size []) (t' := s.toks) (fun _ _ q => Heap.get?_push_of_some _ q) (Nat.le_refl _) ok, rfl, h _ (I.hok.fresh (Nat.le_refl _)) ⟨upd_same, ?_, fun e he => nomatch he⟩⟩
  exact beq_eq_false_iff_ne.mpr (Ne.symm (Nat.ne_of_lt I.big))⟩
/-- (done, g) not in d -/
def rKNotIn (P : Program) (w : World) : R2 := fun x y H Q => ∃ d q r done g es, x = .ref q ∧ y = .ref d ∧ H q = some (.tup [.ref r, .int g]) ∧ H r = some (.tup (vN done)) ∧ KDict P w H d es ∧ Q (.bl (!(look es done g).isSome)) H
theorem op_kNotIn {k : Nat} (hr : Room k X.A) : OpR X (compareOp .NotIn) (rKNotIn X.prog X.w) := by
  intro pins s σ H x y v u Q I rx ry h
  obtain ⟨d, q, r, done, g, es, rfl, rfl, h1, h2, K, hq⟩ := h
  cases rx
  cases ry
  obtain ⟨xs, p, hx⟩ := K.ofH I
  refine notIn_keyed (knd := nestedKind X.prog X.w) (k := nk done g) (by show X.A.units + 1 + 8 < cLine; exact room8 hr) (nested_of I h1 h2) K.sm ⟨xs, hx, rfl⟩ ?_
  rw [valueAt_pairsH, Option.isSome_map]
  rcases look_at p done g with ⟨e1, e2⟩ | ⟨v, t, q', e1, e2⟩
  · rw [e2]
    rw [e1] at hq
    exact ⟨.bl true, H, I.tok _, rfl, hq⟩
  · rw [e2]
    rw [e1] at hq
    exact ⟨.bl false, H, I.tok _, rfl, hq⟩
/-- d[(done, g)] -/
def tKGet (P : Program) (w : World) (td ty : TE) : TE := fun σ H Q => td σ H fun x H1 => ty σ H1 fun y H2 => ∃ d q r done g es v, x = .ref d ∧ y = .ref q ∧ H2 q = some (.tup [.ref r, .int g]) ∧ H2 r = some (.tup (vN done)) ∧ KDict P w H2 d es ∧ look es done g = some v ∧ Q (.int v) H2
theorem pe_kget {k : Nat} {o i : Expr} {pos : Pos} {td ty : TE} (hr : Room k X.A) (ho : PE X o td) (hi : PE X i ty) (hs : NoSl i := by intro _ _; rfl) : PE X (.Subscript o i pos) (tKGet X.prog X.w td ty) := by
  refine ⟨fun pins s σ H Q I h => ?_⟩
  refine subD_of PySem.F.slot_dict_getitem.lookup hs (thn (ho.run pins s σ H _ I h) fun u s1 ⟨x, H1, I1, rx, q1⟩ => thn (hi.run pins s1 σ H1 _ I1 q1) fun iv s2 ⟨y, H2, I2, ry, d, q, r, done, g, es, v, ex, ey, h1, h2, K, hv, q2⟩ => ?_)
  subst ex
  subst ey
  cases rx
  cases ry
  obtain ⟨xs, p, hx⟩ := K.ofH I2
  refine ⟨hx.typeIs, ?_⟩
  rcases look_at p done g with ⟨e1, e2⟩ | ⟨v', t, q', e1, e2⟩
  · rw [e1] at hv
    cases hv
  · rw [hv] at e1
    cases e1
    exact wpAny_getItem_heap (knd := nestedKind X.prog X.w) (k := nk done g) (by show X.A.units + 1 + 8 < cLine; exact room8 hr) (nested_of I2 h1 h2) hx e2 ⟨.int v, H2, I2.tok _, ⟨t, rfl⟩, q2⟩
/-- d[(done, g)] = v, a new key -/
def sKPut (P : Program) (w : World) (td ty tv : TE) : TS := fun D σ H => tv σ H fun v H1 => td σ H1 fun x H2 => ty σ H2 fun y H3 => ∃ d q r done g es i, v = .int i ∧ x = .ref d ∧ y = .ref q ∧ H3 q = some (.tup [.ref r, .int g]) ∧ H3 r = some (.tup (vN done)) ∧ KDict P w H3 d es ∧
  look es done g = none ∧ es.length ≤ 100000 ∧ (KDict P w (upd H3 d (kdH P w d (es ++ [⟨done, g, q, r, i⟩]))) d (es ++ [⟨done, g, q, r, i⟩]) → D.nx σ (upd H3 d (kdH P w d (es ++ [⟨done, g, q, r, i⟩]))))
theorem kd_ne {P : Program} {w : World} {H : Hp} {d b : Addr} {es : List Ent} {xs : List V} (h : H d = some (kdH P w d es)) (hb : H b = some (.tup xs)) : b ≠ d := ne_of hb h fun z => by cases z
theorem ps_kput {k : Nat} {o i value : Expr} {pos pos' : Pos} {td ty tv : TE} (hr : Room k X.A) (ho : PE X o td) (hi : PE X i ty) (hv : PE X value tv) (hs : swapsWith value (some (.Subscript o i pos')) pos.line X.env = pure false) :
    PS X (.Assign [.Subscript o i pos'] value pos) (sKPut X.prog X.w td ty tv) := by
  refine ⟨fun pins s σ H D I h => ?_⟩
  refine wpAny_Assign_Subscript (thn (hv.run pins s σ H _ I h) fun rv s1 ⟨v, H1, I1, r1, q1⟩ => thn (ho.run pins s1 σ H1 _ I1 q1) fun u s2 ⟨x, H2, I2, rx, q2⟩ => thn (hi.run pins s2 σ H2 _ I2 q2) fun iv s3 ⟨y, H3, I3, ry, d, q, r, done, g, es, n, ev, ex, ey, h1, h2, K, hl, hz, q3⟩ => ?_) hs
  subst ev
  subst ex
  subst ey
  cases rx
  cases ry
  obtain ⟨t, rfl⟩ := r1
  obtain ⟨xs, p, hx⟩ := K.ofH I3
  have hn : atKey xs (nk done g) = none := by
    rcases look_at p done g with ⟨e1, e2⟩ | ⟨v', t, q', e1, e2⟩
    · exact e2
    · rw [hl] at e1
      cases e1
  have hlen := Paired.length p
  refine wpAny_setItem_heap (knd := nestedKind X.prog X.w) (k := nk done g) (by show X.A.units + 1 + 8 < cLine; exact room8 hr) (nested_of I3 h1 h2) hx (fun h' hx' sb => ?_) (by rw [sizeLine_eq]; omega)
  rw [storedH_new hn] at hx'
  obtain ⟨o', ds, ep, ho', hex, hd', hl', _, hnd⟩ := hx'
  have newP : kdP X.prog X.w d (es ++ [⟨done, g, q, r, n⟩]) h' := ⟨xs ++ [(nk done g, q, .int n t)], pair_append p (.cons ⟨rfl, rfl, t, rfl⟩ .nil), o', ds, ep, ho', hex, hd', hl', hnd⟩
  have J : Inv X pins σ (upd H3 d (kdH X.prog X.w d (es ++ [⟨done, g, q, r, n⟩]))) { s3 with heap := h', toks := s3.toks + (nestedKind X.prog X.w).draws (nk done g) } :=
    I3.write (e := d) (t' := s3.toks + (nestedKind X.prog X.w).draws (nk done g)) (by rw [K.at_]; trivial) (.inl rfl) (fun b ob hb e => (sb.2 b hb).trans e) ⟨o', ho'⟩ (kdH_ok newP)
  refine ⟨σ, _, J, q3 ⟨upd_same, K.sm, fun e he => ?_⟩⟩
  rcases List.mem_append.mp he with he | he
  · obtain ⟨t1, t2⟩ := K.tups e he
    exact ⟨by rw [upd_ne (kd_ne K.at_ t1)]; exact t1, by rw [upd_ne (kd_ne K.at_ t2)]; exact t2⟩
  · rw [List.mem_singleton] at he
    subst he
    exact ⟨by rw [upd_ne (kd_ne K.at_ h1)]; exact h1, by rw [upd_ne (kd_ne K.at_ h2)]; exact h2⟩
end
end
section
section
variable {X : Cx} {K : PySem.W.Frag} {E : XK} {pos apos : Pos} {k j : Nat} {x m : Str} {sp : Sp} {e o : Expr} {es : List Expr} {ta : TE} {t : TA}
theorem pe_fldK (hK : X.K = K) {f : Str} (he : PE X e ta) (hb : attributeBase e f X.env (eval e X.env) = eval e X.env) : PE X (.Attribute e f pos) (tFld K ta f) := by
  subst hK
  exact pe_fld he hb
theorem ix_listK (hK : X.K = K) : IxR X (rIxL K) := by
  subst hK
  exact ix_list
theorem ix_tupK (hK : X.K = K) : IxR X (rIxT K) := by
  subst hK
  exact ix_tup
theorem op_in_seqK (hK : X.K = K) : OpR X (compareOp .In) (L2.rIn K false) := by
  subst hK
  exact op_in_seq
theorem op_notIn_seqK (hK : X.K = K) : OpR X (compareOp .NotIn) (L2.rIn K true) := by
  subst hK
  exact op_notIn_seq
theorem op_inDK (hK : X.K = K) (hu : X.A.units + 65 < cLine) : OpR X (compareOp .In) (rInD K) := by
  subst hK
  exact op_inD hu
theorem op_eqDK (hK : X.K = K) (hu : X.A.units + 64 < cLine) : OpR X (compareOp .Eq) (rEqD K) := by
  subst hK
  exact op_eqD hu
theorem op_neDK (hK : X.K = K) (hu : X.A.units + 64 < cLine) : OpR X (compareOp .NotEq) (rNeD K) := by
  subst hK
  exact op_neD hu
theorem sl_listK (hK : X.K = K) : SlR X (rSlL K) := by
  subst hK
  exact sl_list
theorem call_len_seqK (hK : X.K = K) : CallR X (.builtin "len") (fun xs H Q => ∃ p ys, xs = [.ref p] ∧ (SqL K H p ys ∨ SqT K H p ys) ∧ Q (.int ys.length) H) := by
  subst hK
  exact call_len_seq
theorem pe_mtK {pl : Sem Bool} (hK : X.K = K) (c : Met X.prog X.w X.K X.mg X.base k x m sp) (hr : Room j X.A) (hk : k ≤ j) (hx : Passes (L2.CX X.prog X.w) X E) (he : PE X o ta) (ha : PA X (e :: es) t)
    (hst : starEach (e :: es) X.env = (false, eval e X.env) :: starEach es X.env := by rfl) (hpl : (backTo pos (starEach es X.env)).any (·.1) = false := by rfl)
    (ht : eval (.Call (.Attribute o m apos) (e :: es) [] pos) X.env = (do
      let ov ← eval o X.env
      standAt apos.atName
      let (f, first) ← holding [ov] (getMethod ov m pl)
      callWith pos f first (backTo pos (starEach (e :: es) X.env)) (backToKw pos (keywordEach [] X.env))) := by rfl) :
    PE X (.Call (.Attribute o m apos) (e :: es) [] pos) (tMeth (He.ga K x) m sp [] E ta t) := by
  subst hK
  exact pe_mt c hr hk hx he ha hst hpl ht
end
/-- units left -/
theorem hu65 {k : Nat} {A : Around} (hr : Room k A) : A.units + 65 < cLine := by
  have := hr.un
  omega
end
end Tp
end
section
set_option Elab.async false
set_option linter.all false
set_option maxRecDepth 100000
set_option maxHeartbeats 4000000
/-! TpH: helpers for the readings: data, new objects, lists that grow, comprehensions and loops over what stays. -/
namespace Tp
open PySem PySem.Spec PyProof.Rows L2
/-! ### data -/
def dN (l : List Nat) : List PyData := l.map fun n : Nat => .int (n : Int)
theorem dp_N {K : PySem.W.Frag} {H : Hp} : ∀ l : List Nat, DpAll K H (vN l) (dN l)
  | [] => .nil
  | n :: l => .cons (.int _) (dp_N l)
theorem eq_N : ∀ a b : List Nat, PyData.eqvAll (dN a) (dN b) = decide (a = b)
  | [], [] => by simp [dN, PyData.eqvAll]
  | [], _ :: _ => by simp [dN, PyData.eqvAll]
  | _ :: _, [] => by simp [dN, PyData.eqvAll]
  | x :: a, y :: b => by
    show PyData.eqvAll (.int x :: dN a) (.int y :: dN b) = _
    rw [PyData.eqvAll, eq_N a b, PyData.eqv]
    by_cases h : x = y
    · subst h
      simp
    · have e : ((x : Int) == (y : Int)) = false := by
        rw [beq_eq_false_iff_ne]
        exact fun z => h (Int.ofNat.inj z)
      rw [e]
      simp [h]
theorem can_N : ∀ l : List Nat, PyData.canLayAll0 (dN l) = true
  | [] => by simp [dN, PyData.canLayAll0]
  | n :: l => by
    show PyData.canLayAll0 (.int n :: dN l) = true
    rw [PyData.canLayAll0, can_N l]
    simp [PyData.canLay0]
theorem dep_N : ∀ l : List Nat, PyData.depthAll (dN l) = 0
  | [] => by simp [dN, PyData.depthAll]
  | n :: l => by
    show PyData.depthAll (.int n :: dN l) = 0
    rw [PyData.depthAll, dep_N l]
    simp [PyData.depth]
theorem shT_N (l : List Nat) : SeqAt.shaped (.tuple (dN l)) = true := by
  unfold SeqAt.shaped
  rw [PyData.canLay0, can_N, PyData.depth, dep_N] <;> rfl
theorem shL_N (l : List Nat) : SeqAt.shaped (.list (dN l)) = true := by
  unfold SeqAt.shaped
  rw [PyData.canLay0, can_N, PyData.depth, dep_N] <;> rfl
theorem eqT_N (a b : List Nat) : PyData.eqv (.tuple (dN a)) (.tuple (dN b)) = decide (a = b) := by
  rw [PyData.eqv, eq_N]
theorem eqL_N (a b : List Nat) : PyData.eqv (.list (dN a)) (.list (dN b)) = decide (a = b) := by
  rw [PyData.eqv, eq_N]
/-- a list of tuples of numbers -/
def dT (l : List (List Nat)) : List PyData := l.map fun t => .tuple (dN t)
theorem shL_T (l : List (List Nat)) : SeqAt.shaped (.list (dT l)) = true := by
  have a : ∀ l : List (List Nat), PyData.canLayAll0 (dT l) = true := fun l => by
    induction l with
    | nil => simp [dT, PyData.canLayAll0]
    | cons x l ih =>
      show PyData.canLayAll0 (.tuple (dN x) :: dT l) = true
      rw [PyData.canLayAll0, ih, PyData.canLay0, can_N] <;> rfl
  have b : ∀ l : List (List Nat), PyData.depthAll (dT l) ≤ 1 := fun l => by
    induction l with
    | nil => simp [dT, PyData.depthAll]
    | cons x l ih =>
      show PyData.depthAll (.tuple (dN x) :: dT l) ≤ 1
      rw [PyData.depthAll, PyData.depth, dep_N]
      omega
  unfold SeqAt.shaped
  rw [PyData.canLay0, a, PyData.depth]
  have := b l
  simp
  omega
theorem any_T (l : List (List Nat)) (x : List Nat) : ((dT l).any fun z => PyData.eqv z (.tuple (dN x))) = l.contains x := by
  induction l with
  | nil => rfl
  | cons y l ih =>
    show (PyData.eqv (.tuple (dN y)) (.tuple (dN x)) || (dT l).any fun z => PyData.eqv z (.tuple (dN x))) = _
    rw [ih, eqT_N, List.contains_cons]
    congr 1
    by_cases h : y = x
    · subst h
      simp
    · have e : (x == y) = false := by
        rw [beq_eq_false_iff_ne]
        exact fun z => h z.symm
      rw [e]
      simp [h]
theorem flat_N (l : List Nat) : (vN l).all flatV = true := by
  rw [List.all_eq_true]
  intro x hx
  obtain ⟨n, _, rfl⟩ := List.mem_map.mp hx
  rfl
theorem in_N (n : Nat) (l : List Nat) : inV (.int (n : Int)) (vN l) = l.contains n := by
  unfold inV
  induction l with
  | nil => rfl
  | cons y l ih =>
    show (((y : Int) == (n : Int)) || (vN l).any fun y => eqV y (.int (n : Int))) = _
    rw [ih, List.contains_cons]
    congr 1
    by_cases h : y = n
    · subst h
      simp
    · have e : ((y : Int) == (n : Int)) = false := by
        rw [beq_eq_false_iff_ne]
        exact fun z => h (Int.ofNat.inj z)
      rw [e, eq_comm, beq_eq_false_iff_ne]
      exact fun z => h z.symm
/-! ### new objects, lists that grow -/
theorem alloc {H : Hp} {o : HO} {R : Addr → Hp → Prop} (h : ∀ p H', Same H H' → H' p = some o → H p = none → R p H') : ∀ p, H p = none → R p (upd H p o) := fun p hp => h p _ (Same.new hp) upd_same hp
theorem new_at {H H1 : Hp} {p : Addr} {o : HO} (hn : H p = none) (hH : upd H p o = H1) : Same H H1 ∧ H1 p = some o := by
  subst hH
  exact ⟨Same.new hn, upd_same⟩
/-- all that H0 knows stands, and the new list at D holds r -/
def Acc (H0 : Hp) (D : Addr) (r : List V) (H : Hp) : Prop := Same H0 H ∧ H D = some (.lst r)
theorem Acc.new {H0 : Hp} {D : Addr} (hD : H0 D = none) (r : List V) : Acc H0 D r (upd H0 D (.lst r)) := ⟨Same.new hD, upd_same⟩
theorem Acc.same {H0 H H' : Hp} {D : Addr} {r : List V} (a : Acc H0 D r H) (e : Same H H') : Acc H0 D r H' := ⟨Same.trans a.1 e, e _ _ a.2⟩
theorem Acc.put {H0 H : Hp} {D : Addr} {r : List V} (hD : H0 D = none) (a : Acc H0 D r H) (r' : List V) : Acc H0 D r' (upd H D (.lst r')) := ⟨Same.mut a.1 hD, upd_same⟩
def AddTo (H0 : Hp) (D : Addr) (r' : List V) : VK := fun y H4 => ∃ acc, H4 D = some (.lst acc) ∧ acc.length < sizeLine ∧ Acc H0 D r' (upd H4 D (.lst (acc ++ [y])))
theorem AddTo.of {H0 H H4 : Hp} {D : Addr} {r r' : List V} {y : V} (hD : H0 D = none) (a : Acc H0 D r H) (e : Same H H4) (hr : r' = r ++ [y]) (hl : r.length < sizeLine) : AddTo H0 D r' y H4 :=
  ⟨r, e _ _ a.2, hl, by rw [hr]; exact Acc.put hD (a.same e) _⟩
section
variable {K : PySem.W.Frag} {a : Addr} {xs : List V} {g : TG} {tt : TT} {te : TE} {vs : List Nat} {σ : L2.St} {H0 : Hp} {D : Addr} {Qd : Hp → Prop}
/-- [.. for x in xs if ..] over a list that stays -/
theorem lcS_list (R : Nat → List V) (hD : H0 D = none) (hR : R 0 = []) (hl : SqL K H0 a xs)
    (hs : ∀ i x H, xs[i]? = some x → Acc H0 D (R i) H → g x (wipe σ vs) H fun σ2 H2 => wipe σ2 vs = wipe σ vs ∧ tt σ2 H2 fun b H3 => if b = true then te σ2 H3 (AddTo H0 D (R (i + 1))) else Acc H0 D (R (i + 1)) H3) (hd : ∀ H, Acc H0 D (R xs.length) H → Qd H) :
    ∃ W : Nat → Nat → Hp → Prop, (∃ m, W 0 m (upd H0 D (.lst []))) ∧ ∀ i m H, W i m H →
      ((Itl K a).stop i H ∧ Qd H) ∨ ((Itl K a).go i H ∧ ∃ Nx : Hp → Prop, (∀ H', Nx H' → ∃ m', m' < m ∧ W (i + 1) m' H') ∧ ∀ x H', (Itl K a).yld i H x H' → g x (wipe σ vs) H' fun σ2 H2 => wipe σ2 vs = wipe σ vs ∧ tt σ2 H2 fun b H3 =>
        if b = true then te σ2 H3 fun y H4 => ∃ acc, H4 D = some (.lst acc) ∧ acc.length < sizeLine ∧ Nx (upd H4 D (.lst (acc ++ [y]))) else Nx H3) :=
  lc_list (fun i H => Acc H0 D (R i) H) (by rw [hR]; exact Acc.new hD []) (fun _ _ _ h => L2.Same.seq h.1 hl) hs hd
theorem lcS_tup (R : Nat → List V) (hD : H0 D = none) (hR : R 0 = []) (hl : SqT K H0 a xs)
    (hs : ∀ i x H, xs[i]? = some x → Acc H0 D (R i) H → g x (wipe σ vs) H fun σ2 H2 => wipe σ2 vs = wipe σ vs ∧ tt σ2 H2 fun b H3 => if b = true then te σ2 H3 (AddTo H0 D (R (i + 1))) else Acc H0 D (R (i + 1)) H3) (hd : ∀ H, Acc H0 D (R xs.length) H → Qd H) :
    ∃ W : Nat → Nat → Hp → Prop, (∃ m, W 0 m (upd H0 D (.lst []))) ∧ ∀ i m H, W i m H →
      ((Itt K a).stop i H ∧ Qd H) ∨ ((Itt K a).go i H ∧ ∃ Nx : Hp → Prop, (∀ H', Nx H' → ∃ m', m' < m ∧ W (i + 1) m' H') ∧ ∀ x H', (Itt K a).yld i H x H' → g x (wipe σ vs) H' fun σ2 H2 => wipe σ2 vs = wipe σ vs ∧ tt σ2 H2 fun b H3 =>
        if b = true then te σ2 H3 fun y H4 => ∃ acc, H4 D = some (.lst acc) ∧ acc.length < sizeLine ∧ Nx (upd H4 D (.lst (acc ++ [y]))) else Nx H3) :=
  lc_tup (fun i H => Acc H0 D (R i) H) (by rw [hR]; exact Acc.new hD []) (fun _ _ _ h => Same.seqT h.1 hl) hs hd
theorem lcS_range {lo : Int} {n : Nat} (R : Nat → List V) (hD : H0 D = none) (hR : R 0 = [])
    (hs : ∀ i H, i < n → Acc H0 D (R i) H → g (.int (lo + i)) (wipe σ vs) H fun σ2 H2 => wipe σ2 vs = wipe σ vs ∧ tt σ2 H2 fun b H3 => if b = true then te σ2 H3 (AddTo H0 D (R (i + 1))) else Acc H0 D (R (i + 1)) H3) (hd : ∀ H, Acc H0 D (R n) H → Qd H) :
    ∃ W : Nat → Nat → Hp → Prop, (∃ m, W 0 m (upd H0 D (.lst []))) ∧ ∀ i m H, W i m H →
      ((Itr lo n).stop i H ∧ Qd H) ∨ ((Itr lo n).go i H ∧ ∃ Nx : Hp → Prop, (∀ H', Nx H' → ∃ m', m' < m ∧ W (i + 1) m' H') ∧ ∀ x H', (Itr lo n).yld i H x H' → g x (wipe σ vs) H' fun σ2 H2 => wipe σ2 vs = wipe σ vs ∧ tt σ2 H2 fun b H3 =>
        if b = true then te σ2 H3 fun y H4 => ∃ acc, H4 D = some (.lst acc) ∧ acc.length < sizeLine ∧ Nx (upd H4 D (.lst (acc ++ [y]))) else Nx H3) :=
  lc_range (fun i H => Acc H0 D (R i) H) (by rw [hR]; exact Acc.new hD []) hs hd
/-- [.. for i, x in enumerate(xs) if ..] -/
theorem lcS_enum (R : Nat → List V) (hD : H0 D = none) (hR : R 0 = []) (hl : SqL K H0 a xs)
    (hs : ∀ i x T H, xs[i]? = some x → Acc H0 D (R i) H → H T = some (.tup [.int (i : Nat), x]) → g (.ref T) (wipe σ vs) H fun σ2 H2 => wipe σ2 vs = wipe σ vs ∧ tt σ2 H2 fun b H3 => if b = true then te σ2 H3 (AddTo H0 D (R (i + 1))) else Acc H0 D (R (i + 1)) H3)
    (hd : ∀ H, Acc H0 D (R xs.length) H → Qd H) :
    ∃ W : Nat → Nat → Hp → Prop, (∃ m, W 0 m (upd H0 D (.lst []))) ∧ ∀ i m H, W i m H →
      ((Ite K a).stop i H ∧ Qd H) ∨ ((Ite K a).go i H ∧ ∃ Nx : Hp → Prop, (∀ H', Nx H' → ∃ m', m' < m ∧ W (i + 1) m' H') ∧ ∀ x H', (Ite K a).yld i H x H' → g x (wipe σ vs) H' fun σ2 H2 => wipe σ2 vs = wipe σ vs ∧ tt σ2 H2 fun b H3 =>
        if b = true then te σ2 H3 fun y H4 => ∃ acc, H4 D = some (.lst acc) ∧ acc.length < sizeLine ∧ Nx (upd H4 D (.lst (acc ++ [y]))) else Nx H3) := by
  refine ⟨fun i m H => m = xs.length - i ∧ i ≤ xs.length ∧ Acc H0 D (R i) H, ⟨xs.length, by simp, Nat.zero_le _, by rw [hR]; exact Acc.new hD []⟩, ?_⟩
  rintro i m H ⟨rfl, hi, p⟩
  have q := L2.Same.seq p.1 hl
  by_cases hlt : i < xs.length
  · refine .inr ⟨⟨xs, xs[i], q, List.getElem?_eq_getElem hlt⟩, fun H' => Acc H0 D (R (i + 1)) H', fun H' p' => ⟨xs.length - (i + 1), by omega, rfl, hlt, p'⟩, fun x H' y => ?_⟩
    obtain ⟨T, z, rfl, hT, rfl, hz⟩ := y
    exact hs i z T _ (hz xs q) (p.same (Same.new hT)) upd_same
  · have e : i = xs.length := by omega
    subst e
    exact .inl ⟨⟨xs, q, Nat.le_refl _⟩, hd H p⟩
/-- for i, x in enumerate(xs) -/
theorem for_enum {tb : TS} {Dn : Ends} {H : Hp} (Pv : Nat → L2.St → Hp → Prop) (h0 : Pv 0 σ H) (hl : ∀ i σ H, i ≤ xs.length → Pv i σ H → SqL K H a xs) (hm : ∀ i σ H H', Same H H' → Pv i σ H → Pv i σ H')
    (hs : ∀ i x T σ H, xs[i]? = some x → Pv i σ H → H T = some (.tup [.int (i : Nat), x]) → g (.ref T) σ H fun σ2 H2 => tb { Dn with nx := Pv (i + 1), ct := Pv (i + 1), bk := Dn.nx } σ2 H2) (hd : ∀ σ H, Pv xs.length σ H → Dn.nx σ H) :
    ∃ W : Nat → Nat → L2.St → Hp → Prop, (∃ m, W 0 m σ H) ∧ ∀ i m σ H, W i m σ H →
      ((Ite K a).stop i H ∧ Dn.nx σ H) ∨ ((Ite K a).go i H ∧ ∃ N : L2.St → Hp → Prop, (∀ σ' H', N σ' H' → ∃ m', m' < m ∧ W (i + 1) m' σ' H') ∧ ∀ x H', (Ite K a).yld i H x H' → g x σ H' fun σ2 H2 => tb { Dn with nx := N, ct := N, bk := Dn.nx } σ2 H2) := by
  refine ⟨fun i m σ H => m = xs.length - i ∧ i ≤ xs.length ∧ Pv i σ H, ⟨xs.length, by simp, Nat.zero_le _, h0⟩, ?_⟩
  rintro i m σ H ⟨rfl, hi, p⟩
  have q := hl i σ H hi p
  by_cases hlt : i < xs.length
  · refine .inr ⟨⟨xs, xs[i], q, List.getElem?_eq_getElem hlt⟩, fun σ' H' => Pv (i + 1) σ' H', fun σ' H' p' => ⟨xs.length - (i + 1), by omega, rfl, hlt, p'⟩, fun x H' y => ?_⟩
    obtain ⟨T, z, rfl, hT, rfl, hz⟩ := y
    exact hs i z T _ _ (hz xs q) (hm _ _ _ _ (Same.new hT) p) upd_same
  · have e : i = xs.length := by omega
    subst e
    exact .inl ⟨⟨xs, q, Nat.le_refl _⟩, hd σ H p⟩
end
end Tp
/-! ### while; lists cut; exceptions' own __init__ -/
namespace Tp
open PySem PySem.Spec PyProof.Rows L2
abbrev Nxt (Pv : L2.St → Hp → Prop) (μ : L2.St → Hp → Nat) (m : Nat) : L2.St → Hp → Prop := fun σ' H' => Pv σ' H' ∧ μ σ' H' < m
theorem turn {Pv : L2.St → Hp → Prop} {μ : L2.St → Hp → Nat} {m : Nat} {tb : TS} {D : Ends} {σ : L2.St} {H : Hp} (h : tb { D with nx := Nxt Pv μ m, ct := Nxt Pv μ m, bk := D.nx } σ H) :
    ∃ N : L2.St → Hp → Prop, (∀ σ' H', N σ' H' → ∃ m', m' < m ∧ m' = μ σ' H' ∧ Pv σ' H') ∧ tb { D with nx := N, ct := N, bk := D.nx } σ H := ⟨Nxt Pv μ m, fun _ _ z => ⟨_, z.2, rfl, z.1⟩, h⟩
theorem while_of {c : TT} {tb : TS} {D : Ends} {σ : L2.St} {H : Hp} (Pv : L2.St → Hp → Prop) (μ : L2.St → Hp → Nat) (h0 : Pv σ H)
    (hs : ∀ σ H, Pv σ H → c σ H fun b H1 => if b = true then ∃ N : L2.St → Hp → Prop, (∀ σ' H', N σ' H' → ∃ m', m' < μ σ H ∧ m' = μ σ' H' ∧ Pv σ' H') ∧ tb { D with nx := N, ct := N, bk := D.nx } σ H1 else D.nx σ H1) : tWhile c tb D σ H := by
  refine ⟨fun m σ H => m = μ σ H ∧ Pv σ H, ⟨_, rfl, h0⟩, ?_⟩
  rintro m σ H ⟨rfl, p⟩
  exact hs σ H p
/-- the same, what holds at the end named -/
theorem while_to {c : TT} {tb : TS} {D : Ends} {σ : L2.St} {H : Hp} (Pv Pd : L2.St → Hp → Prop) (μ : L2.St → Hp → Nat) (h0 : Pv σ H)
    (hs : ∀ Nx : L2.St → Hp → Prop, (∀ σ H, Pd σ H → Nx σ H) → ∀ σ H, Pv σ H → c σ H fun b H1 => if b = true then ∃ N : L2.St → Hp → Prop, (∀ σ' H', N σ' H' → ∃ m', m' < μ σ H ∧ m' = μ σ' H' ∧ Pv σ' H') ∧ tb { D with nx := N, ct := N, bk := D.nx } σ H1 else Nx σ H1)
    (hd : ∀ σ H, Pd σ H → D.nx σ H) : tWhile c tb D σ H := while_of Pv μ h0 (hs D.nx hd)
theorem dec_lt {xs : List V} {n e : Nat} (h : xs.length = n) : decide ((e : Int) < (xs.length : Int)) = decide (e < n) := by
  rw [h]
  exact decide_eq_decide.mpr (by omega)
theorem dec_gt {a b : Nat} : decide ((a : Int) > (b : Int)) = decide (a > b) := decide_eq_decide.mpr (by omega)
/-- an if whose condition leaves the heap as it was -/
theorem tif {c : TT} {t u : TS} {D : Ends} {σ : L2.St} {H : Hp} (b : Bool) (h : ∀ Q : Bool → Hp → Prop, Q b H → c σ H Q) (h1 : b = true → t D σ H) (h2 : b = false → u D σ H) : tIfS c t u D σ H := by
  refine h _ ?_
  cases b
  · exact h2 rfl
  · exact h1 rfl
theorem tifs {c : TT} {t u v : TS} {D : Ends} {σ : L2.St} {H : Hp} (b : Bool) (h : ∀ Q : Bool → Hp → Prop, Q b H → c σ H Q) (h1 : b = true → t { D with nx := v D } σ H) (h2 : b = false → u { D with nx := v D } σ H) : tSeq (tIfS c t u) v D σ H := tif b h h1 h2
theorem tor {a b : TT} {σ : L2.St} {H : Hp} {Q : Bool → Hp → Prop} (x y : Bool) (h1 : ∀ R : Bool → Hp → Prop, R x H → a σ H R) (h2 : x = false → ∀ R : Bool → Hp → Prop, R y H → b σ H R) (q : Q (x || y) H) : tOr a b σ H Q := by
  refine h1 _ ?_
  cases x
  · exact h2 rfl _ q
  · exact q
theorem tand {a b : TT} {σ : L2.St} {H : Hp} {Q : Bool → Hp → Prop} (x y : Bool) (h1 : ∀ R : Bool → Hp → Prop, R x H → a σ H R) (h2 : x = true → ∀ R : Bool → Hp → Prop, R y H → b σ H R) (q : Q (x && y) H) : tAnd a b σ H Q := by
  refine h1 _ ?_
  cases x
  · exact q
  · exact h2 rfl _ q
/-- an if whose condition makes new objects at most -/
theorem tifS {c : TT} {t u : TS} {D : Ends} {σ : L2.St} {H : Hp} (b : Bool) (h : ∀ Q : Bool → Hp → Prop, (∀ H', Same H H' → Q b H') → c σ H Q) (h1 : ∀ H', Same H H' → b = true → t D σ H') (h2 : ∀ H', Same H H' → b = false → u D σ H') : tIfS c t u D σ H := by
  refine h _ fun H' e => ?_
  cases b
  · exact h2 H' e rfl
  · exact h1 H' e rfl
theorem tifsS {c : TT} {t u v : TS} {D : Ends} {σ : L2.St} {H : Hp} (b : Bool) (h : ∀ Q : Bool → Hp → Prop, (∀ H', Same H H' → Q b H') → c σ H Q) (h1 : ∀ H', Same H H' → b = true → t { D with nx := v D } σ H') (h2 : ∀ H', Same H H' → b = false → u { D with nx := v D } σ H') :
    tSeq (tIfS c t u) v D σ H := tifS b h h1 h2
theorem torS {a b : TT} {σ : L2.St} {H : Hp} {Q : Bool → Hp → Prop} (x y : Bool) (h1 : ∀ R : Bool → Hp → Prop, (∀ H', Same H H' → R x H') → a σ H R) (h2 : x = false → ∀ H1, Same H H1 → ∀ R : Bool → Hp → Prop, (∀ H', Same H1 H' → R y H') → b σ H1 R) (q : ∀ H', Same H H' → Q (x || y) H') : tOr a b σ H Q := by
  refine h1 _ fun H1 e1 => ?_
  cases x
  · exact h2 rfl H1 e1 _ fun H' e => q H' (Same.trans e1 e)
  · exact q H1 e1
theorem tandS {a b : TT} {σ : L2.St} {H : Hp} {Q : Bool → Hp → Prop} (x y : Bool) (h1 : ∀ R : Bool → Hp → Prop, (∀ H', Same H H' → R x H') → a σ H R) (h2 : x = true → ∀ H1, Same H H1 → ∀ R : Bool → Hp → Prop, (∀ H', Same H1 H' → R y H') → b σ H1 R) (q : ∀ H', Same H H' → Q (x && y) H') : tAnd a b σ H Q := by
  refine h1 _ fun H1 e1 => ?_
  cases x
  · exact q H1 e1
  · exact h2 rfl H1 e1 _ fun H' e => q H' (Same.trans e1 e)
theorem all_takeWhile {α : Type} (p : α → Bool) : ∀ (l : List α) (x : α), x ∈ l.takeWhile p → p x = true
  | a :: l, x, h => by
    rw [List.takeWhile_cons] at h
    split at h
    · rename_i ha
      rcases List.mem_cons.mp h with rfl | h
      · exact ha
      · exact all_takeWhile p l x h
    · cases h
theorem cut_N {l : List Nat} {i e : Nat} (h1 : i ≤ e) (h2 : e ≤ l.length) : cutV (vN l) (some (i : Int)) (some (e : Int)) = vN ((l.drop i).take (e - i)) := by
  unfold cutV
  rw [HT.sIx_nat, HT.sIx_nat, vN_length, Nat.min_eq_left h2, Nat.min_eq_left (Nat.le_trans h1 h2)]
  unfold vN
  rw [List.map_take, List.map_drop]
theorem oxi_of {P : Program} {w : World} {K : PySem.W.Frag} {mg : Str → Option Value} {base : Heap} {k : Nat} {x qual : Str} {sp : Sp} {params : Arguments} {body : List Stmt} {scope : Scope} {fd : FuncData} {N ps : List Str}
    (F : FunD K "__init__" qual params body scope [] [] (He.ma K (He.ga K x) "__init__") fd) (S : FnScope N ps scope)
    (hb : ∀ (kV doc pm : Value) (an : Option Addr) (cdv ct : Value) (us : List Value), us.length = ps.length → bindArgs (PySem.W.fnOf "__init__" qual params body scope .none kV doc pm an cdv ct) ⟨us, []⟩ = pure (ps.zip us))
    (len : ∀ vs H Q E, sp vs H Q E → vs.length = ps.length) (hbody : BodyOk P w K mg base k N qual body scope (He.ma K (He.ga K x) "__init__") sp) : Oxi P w K mg base (k + 1) x sp :=
  ⟨fd, ps, F.ok S len hbody, F.bindsN hb⟩
end Tp
end
section
set_option Elab.async false
set_option linter.all false
set_option maxRecDepth 100000
set_option maxHeartbeats 4000000
namespace Tp
open PySem PySem.Spec PyProof.Rows L2
section
local macro_rules | `(tactic| walk_at "v") => `(tactic| refine ⟨_, rfl, ?_⟩)
local macro_rules | `(tactic| walk_at "ii") => `(tactic| refine ⟨_, _, rfl, rfl, ?_⟩)
local macro_rules | `(tactic| walk_at "no") => `(tactic| first | exact n_Plan_groups ‹_› | exact n_Plan_tests ‹_› | exact n_Group_name ‹_› | exact n_Group_cost ‹_› | exact n_Test_name ‹_› | exact n_Test_cost ‹_› | exact n_Test_chance ‹_› | exact n_Test_group ‹_› | exact n_Test_behind ‹_› | exact n_Token_mark ‹_› | exact n_Token_some ‹_› | exact n_Token_place ‹_› | exact n_Reader_text ‹_› | exact n_Reader_at ‹_› | exact n_Reader_seen ‹_› | exact n_Search_plan ‹_› | exact n_Search_known ‹_› | exact n_Desk_plan ‹_›)
local macro_rules | `(tactic| walk_at "cl") => `(tactic| first | exact c_Plan ‹_› | exact c_Test ‹_› | exact c_Group ‹_› | exact c_Token ‹_› | exact c_Reader ‹_› | exact c_Search ‹_› | exact c_Desk ‹_›)
local macro_rules | `(tactic| walk_at "f") => `(tactic| (refine ⟨_, _, _, _, _, rfl, by first | assumption | exact upd_same, ?cl, ?no, rfl, ?_⟩; (case cl => walk_at "cl"); (case no => walk_at "no")))
local macro_rules | `(tactic| walk_at "m") => `(tactic| refine ⟨_, _, _, rfl, by first | assumption | exact upd_same, rfl, ?_⟩)
local macro_rules | `(tactic| walk_at "go") => `(tactic| repeat (first | walk_at "v" | walk_at "ii" | walk_at "f" | walk_at "m"))
local macro_rules | `(tactic| walk_at "s") => `(tactic| (refine ⟨_, _, _, _, rfl, by first | assumption | exact upd_same, ?cl, ?no, of_decide_eq_true rfl, ?_⟩; (case cl => walk_at "cl"); (case no => walk_at "no")))
abbrev N_is_small : List Str := ["byte"]
theorem sc_is_small : FnScope N_is_small ["byte"] (defScope s_is_small) := C8.fnScope_by (by decide +kernel)
abbrev N_is_digit : List Str := ["byte"]
theorem sc_is_digit : FnScope N_is_digit ["byte"] (defScope s_is_digit) := C8.fnScope_by (by decide +kernel)
abbrev N_is_in_word : List Str := ["byte"]
theorem sc_is_in_word : FnScope N_is_in_word ["byte"] (defScope s_is_in_word) := C8.fnScope_by (by decide +kernel)
abbrev N_number_of : List Str := ["some", "found", "byte"]
theorem sc_number_of : FnScope N_number_of ["some"] (defScope s_number_of) := C8.fnScope_by (by decide +kernel)
abbrev N_bytes_of : List Str := ["text", "sign"]
theorem sc_bytes_of : FnScope N_bytes_of ["text"] (defScope s_bytes_of) := C8.fnScope_by (by decide +kernel)
abbrev N_Fault_init : List Str := ["self", "kind", "place"]
theorem sc_Fault_init : FnScope N_Fault_init ["self", "kind", "place"] (defScope s_Fault_init) := C8.fnScope_by (by decide +kernel)
abbrev N_Token_init : List Str := ["self", "mark", "some", "place"]
theorem sc_Token_init : FnScope N_Token_init ["self", "mark", "some", "place"] (defScope s_Token_init) := C8.fnScope_by (by decide +kernel)
abbrev N_Token_fault : List Str := ["self", "kind"]
theorem sc_Token_fault : FnScope N_Token_fault ["self", "kind"] (defScope s_Token_fault) := C8.fnScope_by (by decide +kernel)
section
theorem small_int (c : Nat) : Vatsld.small c = (decide ((97 : Int) ≤ c) && decide ((c : Int) ≤ 122)) := by
  unfold Vatsld.small
  congr 1 <;> exact decide_eq_decide.mpr (by omega)
theorem digit_int (c : Nat) : Vatsld.digit c = (decide ((48 : Int) ≤ c) && decide ((c : Int) ≤ 57)) := by
  unfold Vatsld.digit
  congr 1 <;> exact decide_eq_decide.mpr (by omega)
theorem value_snoc (l : List Nat) (c : Nat) : Vatsld.valueIn (l ++ [c]) = 10 * Vatsld.valueIn l + (c - 48) := by
  unfold Vatsld.valueIn
  rw [List.foldl_append] <;> rfl
theorem int_beq (a b : Nat) : ((a : Int) == (b : Int)) = (a == b) := by
  by_cases h : a = b
  · subst h
    simp
  · rw [beq_eq_false_iff_ne.mpr h, beq_eq_false_iff_ne]
    exact fun z => h (Int.ofNat.inj z)
/-- a comprehension over a text -/
theorem lcS_str {x : Str} {g : TG} {tt : TT} {te : TE} {vs : List Nat} {σ : L2.St} {H0 : Hp} {D : Addr} {Qd : Hp → Prop} (R : Nat → List V) (hD : H0 D = none) (hR : R 0 = [])
    (hs : ∀ i c H, x.cps[i]? = some c → Acc H0 D (R i) H → g (.str ⟨#[c]⟩) (wipe σ vs) H fun σ2 H2 => wipe σ2 vs = wipe σ vs ∧ tt σ2 H2 fun b H3 => if b = true then te σ2 H3 (AddTo H0 D (R (i + 1))) else Acc H0 D (R (i + 1)) H3) (hd : ∀ H, Acc H0 D (R x.cps.size) H → Qd H) :
    ∃ W : Nat → Nat → Hp → Prop, (∃ m, W 0 m (upd H0 D (.lst []))) ∧ ∀ i m H, W i m H →
      ((Its x).stop i H ∧ Qd H) ∨ ((Its x).go i H ∧ ∃ Nx : Hp → Prop, (∀ H', Nx H' → ∃ m', m' < m ∧ W (i + 1) m' H') ∧ ∀ y H', (Its x).yld i H y H' → g y (wipe σ vs) H' fun σ2 H2 => wipe σ2 vs = wipe σ vs ∧ tt σ2 H2 fun b H3 =>
        if b = true then te σ2 H3 fun y H4 => ∃ acc, H4 D = some (.lst acc) ∧ acc.length < sizeLine ∧ Nx (upd H4 D (.lst (acc ++ [y]))) else Nx H3) := by
  refine ⟨fun i m H => m = x.cps.size - i ∧ i ≤ x.cps.size ∧ Acc H0 D (R i) H, ⟨x.cps.size, by simp, Nat.zero_le _, by rw [hR]; exact Acc.new hD []⟩, ?_⟩
  rintro i m H ⟨rfl, hi, p⟩
  by_cases hlt : i < x.cps.size
  · refine .inr ⟨hlt, fun H' => Acc H0 D (R (i + 1)) H', fun H' p' => ⟨x.cps.size - (i + 1), by omega, rfl, hlt, p'⟩, fun y H' yl => ?_⟩
    obtain ⟨rfl, c, hc, rfl⟩ := yl
    exact hs i c _ hc p
  · have e : i = x.cps.size := by omega
    subst e
    exact .inl ⟨Nat.le_refl _, hd H p⟩
end
section
variable {P : Program} {w : World} {K : PySem.W.Frag} {mg : Str → Option Value} {base : Heap}
def sp_is_small : Sp := fun vs H Q _ => ∃ (c : Nat), vs = [.int c] ∧ Q (.bl (Vatsld.small c)) H
theorem cal_is_small (T : Tx K mg) : Cal P w K mg base 1 "is_small" sp_is_small := by
  obtain ⟨fd, F⟩ := T.def_ 11 (d := d_is_small) rfl
  refine cal_of F (g_is_small T) sc_is_small (fun _ _ _ _ _ _ us hl => match us, hl with | [_], _ => rfl) (fun vs H Q E h => ?_) fun cdv A outer s H vs Q E hr h => ⟨_, (pss_one (ps_ret (pe_chain op_le op_le pe_int (pv 0) pe_int))), ?_⟩
  · obtain ⟨c, rfl, _⟩ := h
    rfl
  obtain ⟨c, rfl, q⟩ := h
  walk_at "go"
  rw [small_int] at q
  cases e : decide ((97 : Int) ≤ c) <;> rw [e] at q
  · exact q
  · exact ⟨_, _, rfl, rfl, q⟩
def sp_is_digit : Sp := fun vs H Q _ => ∃ (c : Nat), vs = [.int c] ∧ Q (.bl (Vatsld.digit c)) H
theorem cal_is_digit (T : Tx K mg) : Cal P w K mg base 1 "is_digit" sp_is_digit := by
  obtain ⟨fd, F⟩ := T.def_ 12 (d := d_is_digit) rfl
  refine cal_of F (g_is_digit T) sc_is_digit (fun _ _ _ _ _ _ us hl => match us, hl with | [_], _ => rfl) (fun vs H Q E h => ?_) fun cdv A outer s H vs Q E hr h => ⟨_, (pss_one (ps_ret (pe_chain op_le op_le pe_int (pv 0) pe_int))), ?_⟩
  · obtain ⟨c, rfl, _⟩ := h
    rfl
  obtain ⟨c, rfl, q⟩ := h
  walk_at "go"
  rw [digit_int] at q
  cases e : decide ((48 : Int) ≤ c) <;> rw [e] at q
  · exact q
  · exact ⟨_, _, rfl, rfl, q⟩
def sp_is_in_word : Sp := fun vs H Q _ => ∃ (c : Nat), vs = [.int c] ∧ Q (.bl (Vatsld.inner c)) H
theorem cal_is_in_word (T : Tx K mg) : Cal P w K mg base 2 "is_in_word" sp_is_in_word := by
  have c_is_small := cal_is_small (P := P) (w := w) (base := base) T
  have c_is_digit := cal_is_digit (P := P) (w := w) (base := base) T
  obtain ⟨fd, F⟩ := T.def_ 13 (d := d_is_in_word) rfl
  refine cal_of F (g_is_in_word T) sc_is_in_word (fun _ _ _ _ _ _ us hl => match us, hl with | [_], _ => rfl) (fun vs H Q E h => ?_) fun cdv A outer s H vs Q E hr h => ⟨_, (pss_one (ps_ret (pe_or (pe_c c_is_small hr (by decide) passL (pa_cons (pv 0) pa_nil)) (pe_or (pe_c c_is_digit hr (by decide) passL (pa_cons (pv 0) pa_nil)) (pe_one (pe_cmpR op_eq (pv 0) (pe_gi (i_UNDERLINE T)) (nomark _))))))), ?_⟩
  · obtain ⟨c, rfl, _⟩ := h
    rfl
  obtain ⟨c, rfl, q⟩ := h
  walk_at "go"
  unfold Vatsld.inner at q
  cases e : Vatsld.small c <;> rw [e] at q
  · walk_at "go"
    cases e2 : Vatsld.digit c <;> rw [e2] at q
    · walk_at "go"
      refine ⟨rfl, ?_⟩
      rw [show decide (V.int (c : Int) = V.int 95) = (c == 95) by rw [dec_int]; exact int_beq c 95]
      exact q
    · exact q
  · exact q
def sp_number_of (K : PySem.W.Frag) : Sp := fun vs H Q _ => ∃ (a : Addr) (t : List Nat), vs = [.ref a] ∧ SqT K H a (vN t) ∧ (∀ c ∈ t, 48 ≤ c) ∧ Q (.int (Vatsld.valueIn t)) H
theorem cal_number_of (T : Tx K mg) : Cal P w K mg base 1 "number_of" (sp_number_of K) := by
  obtain ⟨fd, F⟩ := T.def_ 14 (d := d_number_of) rfl
  refine cal_of F (g_number_of T) sc_number_of (fun _ _ _ _ _ _ us hl => match us, hl with | [_], _ => rfl) (fun vs H Q E h => ?_) fun cdv A outer s H vs Q E hr h => ⟨_, (pss_cons (ps_set (i := 1) sc_number_of.nd rfl (Or.inl rfl) pe_int)
    (pss_cons (ps_for (passes_of rfl) rfl (pi_tup (pv 0)) (pg_name (i := 2) sc_number_of.nd rfl (Or.inl rfl)) (pss_one (ps_set (i := 1) sc_number_of.nd rfl (Or.inl rfl) (pe_op op_sub (pe_op op_add (pe_op op_mul pe_int (pv 1)) (pv 2)) pe_int))))
    (pss_one (ps_ret (pv 1))))), ?_⟩
  · obtain ⟨a, t, rfl, _⟩ := h
    rfl
  obtain ⟨a, t, rfl, ha, h48, q⟩ := h
  walk_at "go"
  refine ⟨⟨_, ha⟩, for_tup (xs := vN t) (fun i σ H' => H' = H ∧ ∃ v, σ = [some (.ref a), some (.int (Vatsld.valueIn (t.take i) : Nat)), v]) ⟨rfl, none, rfl⟩ ?_ ?_ ?_⟩
  · rintro i σ H' hi ⟨rfl, _⟩
    exact ha
  · rintro i x σ H' hx ⟨rfl, v, rfl⟩
    obtain ⟨c, hc, rfl⟩ := of_vN hx
    walk_at "go"
    refine ⟨by first | exact Or.inl ⟨by decide, by decide⟩ | exact Or.inr ⟨by decide, by decide⟩, ?_⟩
    walk_at "go"
    refine ⟨rfl, some (.int c), ?_⟩
    rw [take_more hc, value_snoc]
    have := h48 c (List.mem_of_getElem? hc)
    have e : ((10 * Vatsld.valueIn (t.take i) + (c - 48) : Nat) : Int) = 10 * (Vatsld.valueIn (t.take i) : Nat) + c - 48 := by omega
    rw [e] <;> rfl
  · rintro σ H' ⟨rfl, v, rfl⟩
    walk_at "go"
    rw [vN_length, List.take_length]
    exact q
def sp_bytes_of : Sp := fun vs H Q _ => ∃ (z : Str) (t : List Nat), vs = [.str z] ∧ z.cps.toList = t ∧ t.length ≤ 1000 ∧ ∀ p H', Same H H' → H' p = some (.tup (vN t)) → Q (.ref p) H'
theorem cal_bytes_of (T : Tx K mg) : Cal P w K mg base 1 "bytes_of" sp_bytes_of := by
  obtain ⟨fd, F⟩ := T.def_ 10 (d := d_bytes_of) rfl
  refine cal_of F (g_bytes_of T) sc_bytes_of (fun _ _ _ _ _ _ us hl => match us, hl with | [_], _ => rfl) (fun vs H Q E h => ?_) fun cdv A outer s H vs Q E hr h => ⟨_, (pss_one (ps_ret (pe_callTy call_tuple_of (by rfl) (f_tuple T) (by decide +kernel) (by exact (pa_cons (pe_lc (own := [("sign", 1)]) rfl sc_bytes_of.nd (pi_str (pv 0)) (blkOk_by (own := [("sign", 1)]) (N := N_bytes_of) (sc := defScope s_bytes_of) (by decide +kernel)) (fun _ _ _ _ _ => by exact (pg_name (i := 1) sc_bytes_of.nd rfl (Or.inl rfl))) (fun _ _ _ _ _ => by exact pts_nil) (fun _ _ _ _ _ => by exact (pe_callB call_ord (by rfl) (f_ord T) (by decide +kernel) (pa_cons (pv 1) pa_nil)))) pa_nil))))), ?_⟩
  · obtain ⟨a, t, rfl, _⟩ := h
    rfl
  obtain ⟨z, t, rfl, hz, hz2, q⟩ := h
  walk_at "go"
  refine fun D hD => lcS_str (fun i => vN (t.take i)) hD rfl ?_ ?_
  · intro i c H1 hc a
    refine ⟨rfl, ?_⟩
    walk_at "go"
    have hc2 : t[i]? = some c := by
      rw [← hz, Array.getElem?_toList]
      exact hc
    refine ⟨rfl, AddTo.of hD a (Same.refl _) (by rw [take_more hc2, vN_append]; rfl) ?_⟩
    have hi := (List.getElem?_eq_some_iff.mp hc2).1
    rw [vN_length, List.length_take, sizeLine_eq]
    omega
  · intro H1 a
    refine ⟨_, _, rfl, .inl ⟨SqL.of a.2, fun p hp => q p _ (Same.trans a.1 (Same.new hp)) ?_⟩⟩
    rw [upd_same, ← hz, show z.cps.size = z.cps.toList.length by rw [Array.length_toList], List.take_length]
/-! ### faults -/
def sp_Fault (K : PySem.W.Frag) : Sp := fun vs H Q _ => ∃ (a : Addr) (k p : V), vs = [.ref a, k, p] ∧ H a = some (exo a (He.ga K "Fault") none) ∧
  ∀ d H', H d = none → d ≠ a → H' a = some (exo a (He.ga K "Fault") (some d)) → H' d = some (exd d [("place", p), ("kind", k)]) → (∀ b o, H b = some o → b ≠ a → H' b = some o) → Q .non H'
theorem oxi_Fault (T : Tx K mg) : Oxi P w K mg base 1 "Fault" (sp_Fault K) := by
  obtain ⟨fd, F⟩ := T.def_ 7 (d := d_Fault_init) rfl
  refine oxi_of (x := "Fault") F sc_Fault_init (fun _ _ _ _ _ _ us hl => match us, hl with | [_, _, _], _ => rfl) (fun vs H Q E h => ?_) fun cdv A outer s H vs Q E hr h => ⟨_, (pss_cons (ps_ost (pv 0) (pv 1))
    (pss_one (ps_ost (pv 0) (pv 2)))), ?_⟩
  · obtain ⟨a, k, p, rfl, _⟩ := h
    rfl
  obtain ⟨a, k, p, rfl, ha, q⟩ := h
  walk_at "go"
  refine ⟨_, _, rfl, (o_Fault T).1, n_Fault_kind T, .inl ⟨ha, fun d hd hda => ?_⟩⟩
  walk_at "go"
  refine ⟨_, _, rfl, (o_Fault T).1, n_Fault_place T, .inr ⟨d, _, upd_same, by rw [upd_ne hda, upd_same], of_decide_eq_true rfl, ?_⟩⟩
  refine q d _ hd hda ?_ ?_ ?_
  · rw [upd_ne (Ne.symm hda), upd_same]
  · rw [upd_same]
  · intro b o hb hba
    have hbd : b ≠ d := ne_of_none hb hd
    rw [upd_ne hbd, upd_ne hba, upd_ne hbd]
    exact hb
/-- a fault told -/
def FE (K : PySem.W.Frag) (S : List Addr) (E : XK) (k p : Nat) (H : Hp) : Prop := ∀ d H', Keep S H H' → H' d = some (.xd [("place", .int p), ("kind", .int k)]) → E (.ref (He.ga K "Fault")) (some d) H'
theorem FE.of {S S' : List Addr} {E : XK} {k p : Nat} {H0 H : Hp} (h : FE K S E k p H0) (e : Keep S H0 H) (sub : ∀ b ∈ S', b ∈ S) : FE K S' E k p H := fun d H' e' hd => h d H' (Keep.trans e (Keep.mono e' sub)) hd
theorem FE.made {E : XK} {k p : Nat} {H : Hp} {a : Addr} (h : FE K [] E k p H) (ha : H a = none) : sp_Fault K [.ref a, .int k, .int p] (upd H a (exo a (He.ga K "Fault") none))
    (fun v H2 => v = .non ∧ ∃ (d : Addr) (fs : List (Str × V)), H2 a = some (exo a (He.ga K "Fault") (some d)) ∧ H2 d = some (exd d fs) ∧ H d = none ∧ E (.ref (He.ga K "Fault")) (some d) (upd (del H2 a) d (.xd fs))) (fun _ _ _ => False) := by
  refine ⟨a, _, _, rfl, upd_same, fun d H' hd hda e1 e2 e3 => ⟨rfl, d, _, e1, e2, ?_, ?_⟩⟩
  · rw [upd_ne hda] at hd
    exact hd
  · refine h d _ (fun b o hb _ => ?_) upd_same
    have hba : b ≠ a := ne_of_none hb ha
    have hbd : b ≠ d := by
      rw [upd_ne hda] at hd
      exact ne_of_none hb hd
    rw [upd_ne hbd, del_ne hba]
    exact e3 b o (by rw [upd_ne hba]; exact hb) hba
/-! ### tokens -/
def sp_Token (K : PySem.W.Frag) : Sp := fun vs H Q _ => ∃ (x dx : Addr) (m s p : V), vs = [.ref x, m, s, p] ∧ H x = some (.ins (He.ga K "Token") dx []) ∧
  ∀ H', (∃ dx, H' x = some (.ins (He.ga K "Token") dx [("mark", m), ("some", s), ("place", p)])) → (∀ b o, H b = some o → b ≠ x → H' b = some o) → Q .non H'
theorem mak_Token (T : Tx K mg) : Mak P w K mg base 1 "Token" (sp_Token K) := by
  obtain ⟨fd, F⟩ := T.def_ 8 (d := d_Token_init) rfl
  refine mak_of F (mk_Token T) (g_Token T) sc_Token_init (fun _ _ _ _ _ _ us hl => match us, hl with | [_, _, _, _], _ => rfl) (fun vs H Q E h => ?_) fun cdv A outer s H vs Q E hr h => ⟨_, (pss_cons (ps_fld (pv 0) (pv 1) rfl)
    (pss_cons (ps_fld (pv 0) (pv 2) rfl)
    (pss_one (ps_fld (pv 0) (pv 3) rfl)))), ?_⟩
  · obtain ⟨x, dx, m, s, p, rfl, _⟩ := h
    rfl
  obtain ⟨x, dx, m, s', p, rfl, hx, q⟩ := h
  walk_at "go"
  walk_at "s"
  walk_at "go"
  walk_at "s"
  walk_at "go"
  walk_at "s"
  refine q _ ⟨dx, upd_same⟩ fun b o hb hbx => ?_
  rw [upd_ne hbx, upd_ne hbx, upd_ne hbx]
  exact hb
/-- a token in the heap: its mark, bytes, place -/
def TokAt (K : PySem.W.Frag) (H : Hp) (x : Addr) (m : Mk) (bs : List Nat) (p : Nat) : Prop := ∃ dx b, H x = some (.ins (He.ga K "Token") dx [("mark", .str (Str.ofString m.str)), ("some", .ref b), ("place", .int p)]) ∧ H b = some (.tup (vN bs))
theorem TokAt.same {H H' : Hp} {x : Addr} {m : Mk} {bs : List Nat} {p : Nat} (e : Same H H') (h : TokAt K H x m bs p) : TokAt K H' x m bs p := by
  obtain ⟨dx, b, h1, h2⟩ := h
  exact ⟨dx, b, e _ _ h1, e _ _ h2⟩
theorem made_Token {H : Hp} {Q : VK} {m : Mk} {b : Addr} {bs : List Nat} {p : Nat} (hb : H b = some (.tup (vN bs))) (q : ∀ x H', Same H H' → TokAt K H' x m bs p → Q (.ref x) H') : ∀ x dx, H x = none → H dx = none → dx ≠ x →
    sp_Token K [.ref x, .str (Str.ofString m.str), .ref b, .int p] (upd (upd H dx (.own x)) x (.ins (He.ga K "Token") dx [])) (fun v H2 => v = .non ∧ Q (.ref x) H2) (fun _ _ _ => False) := by
  intro x dx hx hdx hne
  refine ⟨x, dx, _, _, _, rfl, upd_same, fun H' ⟨dx', e1⟩ e2 => ⟨rfl, q x H' (Same.made hx hdx e2) ⟨dx', b, e1, Same.made hx hdx e2 _ _ hb⟩⟩⟩
/-- token.fault(kind): a fault as a value -/
def sp_Token_fault (K : PySem.W.Frag) : Sp := fun vs H Q _ => ∃ (x : Addr) (k p : Nat) (m : Mk) (bs : List Nat), vs = [.ref x, .int k] ∧ TokAt K H x m bs p ∧
  ∀ a d H', Same H H' → H a = none → H' a = some (exo a (He.ga K "Fault") (some d)) → H' d = some (exd d [("place", .int p), ("kind", .int k)]) → H d = none → Q (.ref a) H'
theorem met_Token_fault (T : Tx K mg) : Met P w K mg base 3 "Token" "fault" (sp_Token_fault K) := by
  have c_Fault := oxi_Fault (P := P) (w := w) (base := base) T
  obtain ⟨fd, F⟩ := T.def_ 9 (d := d_Token_fault) rfl
  refine met_of F (c_Token T) (m_Token_fault T) sc_Token_fault (fun _ _ _ _ _ _ us hl => match us, hl with | [_, _], _ => rfl) (fun vs H Q E h => ?_) fun cdv A outer s H vs Q E hr h => ⟨_, (pss_one (ps_ret (pe_oex (o_Fault T) c_Fault hr (by decide) (g_Fault T) (pa_cons (pv 1) (pa_cons (pe_fld (pv 0) rfl) pa_nil))))), ?_⟩
  · obtain ⟨x, k, p, m, bs, rfl, _⟩ := h
    rfl
  obtain ⟨x, k, p, m, bs, rfl, ⟨dx, b, h1, h2⟩, q⟩ := h
  walk_at "go"
  refine ⟨of_decide_eq_true rfl, fun a ha => ⟨a, _, _, rfl, upd_same, fun d H' hd hda e1 e2 e3 => ⟨rfl, ?_⟩⟩⟩
  rw [upd_ne hda] at hd
  exact q a d H' (fun b o hb => e3 b o (by rw [upd_ne (ne_of_none hb ha)]; exact hb) (ne_of_none hb ha)) ha e1 e2 hd
end
end
section
local macro_rules | `(tactic| walk_at "v") => `(tactic| refine ⟨_, rfl, ?_⟩)
local macro_rules | `(tactic| walk_at "ii") => `(tactic| refine ⟨_, _, rfl, rfl, ?_⟩)
local macro_rules | `(tactic| walk_at "no") => `(tactic| first | exact n_Plan_groups ‹_› | exact n_Plan_tests ‹_› | exact n_Group_name ‹_› | exact n_Group_cost ‹_› | exact n_Test_name ‹_› | exact n_Test_cost ‹_› | exact n_Test_chance ‹_› | exact n_Test_group ‹_› | exact n_Test_behind ‹_› | exact n_Token_mark ‹_› | exact n_Token_some ‹_› | exact n_Token_place ‹_› | exact n_Reader_text ‹_› | exact n_Reader_at ‹_› | exact n_Reader_seen ‹_› | exact n_Search_plan ‹_› | exact n_Search_known ‹_› | exact n_Desk_plan ‹_›)
local macro_rules | `(tactic| walk_at "cl") => `(tactic| first | exact c_Plan ‹_› | exact c_Test ‹_› | exact c_Group ‹_› | exact c_Token ‹_› | exact c_Reader ‹_› | exact c_Search ‹_› | exact c_Desk ‹_›)
local macro_rules | `(tactic| walk_at "f") => `(tactic| (refine ⟨_, _, _, _, _, rfl, by first | assumption | exact upd_same, ?cl, ?no, rfl, ?_⟩; (case cl => walk_at "cl"); (case no => walk_at "no")))
local macro_rules | `(tactic| walk_at "m") => `(tactic| refine ⟨_, _, _, rfl, by first | assumption | exact upd_same, rfl, ?_⟩)
local macro_rules | `(tactic| walk_at "go") => `(tactic| repeat (first | walk_at "v" | walk_at "ii" | walk_at "f" | walk_at "m"))
local macro_rules | `(tactic| walk_at "s") => `(tactic| (refine ⟨_, _, _, _, rfl, by first | assumption | exact upd_same, ?cl, ?no, of_decide_eq_true rfl, ?_⟩; (case cl => walk_at "cl"); (case no => walk_at "no")))
abbrev N_word_at : List Str := ["text", "at", "end", "some", "word"]
theorem sc_word_at : FnScope N_word_at ["text", "at"] (defScope s_word_at) := C8.fnScope_by (by decide +kernel)
abbrev N_number_at : List Str := ["text", "at", "end", "some"]
theorem sc_number_at : FnScope N_number_at ["text", "at"] (defScope s_number_at) := C8.fnScope_by (by decide +kernel)
section
variable {P : Program} {w : World} {K : PySem.W.Frag} {mg : Str → Option Value} {base : Heap}
/-- the promise of the three: a text, a place; a token, or a fault -/
def sp_tok (K : PySem.W.Frag) (ok : Nat → Bool) : Sp := fun vs H Q E => ∃ (a : Addr) (t : List Nat) (i : Nat), vs = [.ref a, .int i] ∧ SqL K H a (vN t) ∧ t.length ≤ 100000 ∧ i ≤ t.length ∧ (∀ c, t[i]? = some c → ok c = true ∧ gap c = false) ∧ (t[i]? = none → ok 0 = true) ∧
  (∀ k, lexAt t i = .error k → FE K [] E k i H) ∧ ∀ tok bs x H', lexAt t i = .ok (tok, bs) → Same H H' → TokAt K H' x (markOf tok) bs i → Q (.ref x) H'
theorem bool4 : ∀ a b c d : Bool, (!(!a && (!b || !c) && !d)) = (a || ((b && c) || d)) := by decide
theorem good_not (c : Nat) (r : List Nat) : (!Vatsld.goodNumber (c :: r)) = (decide (4 < (c :: r).length) || ((decide (1 < (c :: r).length) && c == 48) || decide (1000 < Vatsld.valueIn (c :: r)))) := by
  unfold Vatsld.goodNumber Vatsld.COST
  simp only [List.head?_cons]
  rw [show (some c != some 48) = !(c == 48) by cases h : c == 48 <;> simp_all]
  have e1 : decide ((c :: r).length ≤ 4) = !decide (4 < (c :: r).length) := by rw [← decide_not]; exact decide_eq_decide.mpr (by omega)
  have e2 : ((c :: r).length == 1) = !decide (1 < (c :: r).length) := by
    rw [← decide_not, Bool.eq_iff_iff]
    simp
  have e3 : decide (Vatsld.valueIn (c :: r) ≤ 1000) = !decide (1000 < Vatsld.valueIn (c :: r)) := by rw [← decide_not]; exact decide_eq_decide.mpr (by omega)
  rw [e1, e2, e3]
  exact bool4 _ _ _ _
def wds : List Tp.Mk := [.group, .test, .cost, .chance, .in_, .after_]
theorem wds_get {i : Nat} {v : V} (h : [V.str "group", V.str "test", V.str "cost", V.str "chance", V.str "in", V.str "after"][i]? = some v) : ∃ (m : Tp.Mk) (s : String), wds[i]? = some m ∧ v = .str (Str.ofString m.str) ∧ m.word? = some m.str ∧ (Str.ofString m.str).cps.toList = Vatsld.ascii m.str ∧ (Vatsld.ascii m.str).length ≤ 1000 := by
  rcases i with _ | _ | _ | _ | _ | _ | i
  · cases h
    exact ⟨.group, "", rfl, rfl, rfl, by decide, by decide⟩
  · cases h
    exact ⟨.test, "", rfl, rfl, rfl, by decide, by decide⟩
  · cases h
    exact ⟨.cost, "", rfl, rfl, rfl, by decide, by decide⟩
  · cases h
    exact ⟨.chance, "", rfl, rfl, rfl, by decide, by decide⟩
  · cases h
    exact ⟨.in_, "", rfl, rfl, rfl, by decide, by decide⟩
  · cases h
    exact ⟨.after_, "", rfl, rfl, rfl, by decide, by decide⟩
  · cases h
theorem wds_none {w : List Nat} (h : ∀ (i : Nat) (m : Tp.Mk), wds[i]? = some m → w ≠ Vatsld.ascii m.str) : markW w = .name := by
  rw [mark_name]
  have e : Vatsld.reserved = wds.map fun m : Tp.Mk => Vatsld.ascii m.str := by decide
  rw [e, List.contains_eq_any_beq, List.any_eq_false]
  intro x hx
  obtain ⟨m, hm, rfl⟩ := List.mem_map.mp hx
  obtain ⟨i, hi⟩ := List.mem_iff_getElem?.mp hm
  simpa using h i m hi
theorem cal_word_at (T : Tx K mg) : Cal P w K mg base 3 "word_at" (sp_tok K Vatsld.small) := by
  have c_is_in_word := cal_is_in_word (P := P) (w := w) (base := base) T
  have c_bytes_of := cal_bytes_of (P := P) (w := w) (base := base) T
  have c_Fault := oxi_Fault (P := P) (w := w) (base := base) T
  have c_Token := mak_Token (P := P) (w := w) (base := base) T
  obtain ⟨fd, F⟩ := T.def_ 15 (d := d_word_at) rfl
  refine cal_of F (g_word_at T) sc_word_at (fun _ _ _ _ _ _ us hl => match us, hl with | [_, _], _ => rfl) (fun vs H Q E h => ?_) fun cdv A outer s H vs Q E hr h => ⟨_, (pss_cons (ps_set (i := 2) sc_word_at.nd rfl (Or.inl rfl) (pv 1))
    (pss_cons (ps_while (passes_of rfl) (PW.pt (pw_and (pt_cmpR op_lt (pv 2) (pe_callB call_len_seq (by rfl) (f_len T) (by decide +kernel) (pa_cons (pv 0) pa_nil)) (nomark _)) (pw_and1 (pt_val (pe_c c_is_in_word hr (by decide) passL (pa_cons (pe_ix ix_list (pv 0) (pv 2) (fun _ _ => rfl)) pa_nil)))))) (pss_one (ps_aug (i := 2) sc_word_at.nd rfl (Or.inl rfl) pe_int ip_add)))
    (pss_cons (ps_set (i := 3) sc_word_at.nd rfl (Or.inl rfl) (pe_callTy call_tuple_of (by rfl) (f_tuple T) (by decide +kernel) (pa_cons (pe_slice sl_list (pv 0) (po_some (pv 1)) (po_some (pv 2))) pa_nil)))
    (pss_cons (ps_if (pt_cmpR op_gt (pe_callB call_len_seq (by rfl) (f_len T) (by decide +kernel) (pa_cons (pv 3) pa_nil)) (pe_gi (i_MOST_WORD T)) (nomark _)) (pss_one (ps_raise rfl (takes_of rfl rfl rfl rfl) (pmk_ox (o_Fault T) c_Fault hr (by decide) (g_Fault T) (pa_cons (pe_gi (i_BAD_TOKEN T)) (pa_cons (pv 1) pa_nil))))) pss_nil)
    (pss_cons (ps_for (passes_of rfl) rfl (pi_tup (pe_gr (g_WORDS T))) (pg_name (i := 4) sc_word_at.nd rfl (Or.inl rfl)) (pss_one (ps_if (pt_cmpR (op_eqD hr.units) (pv 3) (pe_c c_bytes_of hr (by decide) passL (pa_cons (pv 4) pa_nil)) (nomark _)) (pss_one (ps_ret (pe_mk c_Token hr (by decide) passL (pa_cons (pv 4) (pa_cons (pv 3) (pa_cons (pv 1) pa_nil)))))) pss_nil)))
    (pss_one (ps_ret (pe_mk c_Token hr (by decide) passL (pa_cons (pe_gs (s_NAME T)) (pa_cons (pv 3) (pa_cons (pv 1) pa_nil))))))))))), ?_⟩
  · obtain ⟨a, t, i, rfl, _⟩ := h
    rfl
  obtain ⟨a, t, i, rfl, ha, ht, hi, hc, hno, hf, q⟩ := h
  walk_at "go"
  refine while_to (fun σ H' => H' = H ∧ ∃ (e : Nat), σ = [some (.ref a), some (.int i), some (.int e), none, none] ∧ i ≤ e ∧ e ≤ t.length ∧ skipTo Vatsld.inner t e = skipTo Vatsld.inner t i)
    (fun σ H' => H' = H ∧ ∃ (e : Nat), σ = [some (.ref a), some (.int i), some (.int e), none, none] ∧ e ≤ t.length ∧ e = skipTo Vatsld.inner t i) (fun σ _ => match σ with
    | [_, _, some (.int e), _, _] => t.length - e.toNat
    | _ => 0) ⟨rfl, i, rfl, Nat.le_refl _, hi, rfl⟩ ?_ ?_
  · rintro Nx hNx σ H' ⟨rfl, e, rfl, h1, h2, h3⟩
    walk_at "go"
    refine ⟨_, _, rfl, .inl ha, ?_⟩
    walk_at "go"
    rw [dec_lt (vN_length t)]
    by_cases hlt : e < t.length
    · rw [decide_eq_true hlt]
      obtain ⟨c, hc⟩ : ∃ c, t[e]? = some c := ⟨_, List.getElem?_eq_getElem hlt⟩
      walk_at "go"
      refine ⟨_, _, _, _, rfl, rfl, ha, atI_nat (vN_get hc), ?_⟩
      walk_at "go"
      cases hin : Vatsld.inner c
      · exact hNx _ _ ⟨rfl, e, rfl, h2, by rw [← h3, skipTo_stop hc hin]⟩
      · refine turn ?_
        walk_at "go"
        refine ⟨⟨rfl, e + 1, rfl, by omega, by omega, by rw [← h3, skipTo_step hc hin]⟩, ?_⟩
        show t.length - (e + 1) < t.length - e
        omega
    · rw [decide_eq_false hlt]
      exact hNx _ _ ⟨rfl, e, rfl, h2, by rw [← h3, skipTo_end (by omega)]⟩
  · rintro σ H' ⟨rfl, e, rfl, h2, rfl⟩
    obtain ⟨c, hic⟩ : ∃ c, t[i]? = some c := by
      cases e : t[i]? with
      | none => exact absurd (hno e) (by decide)
      | some c => exact ⟨c, rfl⟩
    have lx : lexAt t i = if 12 < ((t.drop i).takeWhile Vatsld.inner).length then .error 2 else .ok (.word ((t.drop i).takeWhile Vatsld.inner), (t.drop i).takeWhile Vatsld.inner) := by
      unfold lexAt
      rw [hic]
      exact if_pos (hc c hic).1
    have cut : cutV (vN t) (some (i : Int)) (some (skipTo Vatsld.inner t i : Int)) = vN ((t.drop i).takeWhile Vatsld.inner) := by
      rw [cut_N le_skipTo h2]
      unfold skipTo
      rw [Nat.add_sub_cancel_left, take_takeWhile]
    walk_at "go"
    refine ⟨_, _, rfl, ha, alloc fun p H1 e1 hp hn => ?_⟩
    refine ⟨_, _, rfl, .inl ⟨SqL.of hp, alloc fun l H2 e2 hl hn2 => ?_⟩⟩
    rw [cut] at hl
    have e12 := Same.trans e1 e2
    walk_at "go"
    refine ⟨_, _, rfl, .inr (.inl (.inl hl)), ?_⟩
    walk_at "go"
    rw [vN_length, show decide (((12 : Int)) < ((((t.drop i).takeWhile Vatsld.inner).length : Nat) : Int)) = decide (12 < ((t.drop i).takeWhile Vatsld.inner).length) from decide_eq_decide.mpr (by omega)]
    by_cases hlong : 12 < ((t.drop i).takeWhile Vatsld.inner).length
    · rw [decide_eq_true hlong]
      walk_at "go"
      exact ⟨of_decide_eq_true rfl, fun a' ha' => FE.made (k := 2) (FE.of (hf 2 (by rw [lx, if_pos hlong])) (Keep.of e12) fun _ z => z) ha'⟩
    · rw [decide_eq_false hlong]
      rw [if_neg hlong] at lx
      walk_at "go"
      refine ⟨⟨_, t_WORDS T _⟩, for_tup (xs := [V.str "group", V.str "test", V.str "cost", V.str "chance", V.str "in", V.str "after"])
        (fun k σ H'' => Same H2 H'' ∧ (∃ v, σ = [some (.ref a), some (.int i), some (.int (skipTo Vatsld.inner t i : Nat)), some (.ref l), v]) ∧ ∀ (j : Nat) (m : Tp.Mk), j < k → wds[j]? = some m → (t.drop i).takeWhile Vatsld.inner ≠ Vatsld.ascii m.str)
        ⟨Same.refl _, ⟨none, rfl⟩, fun j m hj => absurd hj (Nat.not_lt_zero _)⟩ (fun _ _ H'' _ _ => t_WORDS T _) ?_ ?_⟩
      · rintro k x σ H3 hx ⟨e3, ⟨v, rfl⟩, hall⟩
        obtain ⟨m, _, hm, rfl, hw, hz1, hz2⟩ := wds_get hx
        walk_at "go"
        refine ⟨by rw [hz1]; exact hz2, fun p4 H4 e4 hp4 => ?_⟩
        rw [hz1] at hp4
        have hb4 := e4 _ _ (e3 _ _ hl)
        refine ⟨_, _, .tup (.inl (.inl hb4)) (dp_N _), .tup (.inl (.inl hp4)) (dp_N _), shT_N _, shT_N _, ?_⟩
        rw [eqT_N]
        walk_at "go"
        by_cases heq : (t.drop i).takeWhile Vatsld.inner = Vatsld.ascii m.str
        · rw [decide_eq_true heq]
          walk_at "go"
          refine made_Token (m := m) hb4 fun x H5 e5 hx => q _ _ x H5 lx (Same.trans e12 (Same.trans e3 (Same.trans e4 e5))) ?_
          show TokAt K H5 x (markW _) _ i
          rw [(mark_word hw).mpr heq]
          exact hx
        · rw [decide_eq_false heq]
          refine ⟨Same.trans e3 e4, ⟨_, rfl⟩, fun j m' hj hm' => ?_⟩
          by_cases hjk : j = k
          · subst hjk
            rw [hm] at hm'
            cases hm'
            exact heq
          · exact hall j m' (by omega) hm'
      · rintro σ H3 ⟨e3, ⟨v, rfl⟩, hall⟩
        walk_at "go"
        refine made_Token (m := .name) (e3 _ _ hl) fun x H5 e5 hx => q _ _ x H5 lx (Same.trans e12 (Same.trans e3 e5)) ?_
        show TokAt K H5 x (markW _) _ i
        rw [wds_none fun j m hm => hall j m (by have := (List.getElem?_eq_some_iff.mp hm).1; exact this) hm]
        exact hx
theorem cal_number_at (T : Tx K mg) : Cal P w K mg base 3 "number_at" (sp_tok K Vatsld.digit) := by
  have c_is_digit := cal_is_digit (P := P) (w := w) (base := base) T
  have c_number_of := cal_number_of (P := P) (w := w) (base := base) T
  have c_Fault := oxi_Fault (P := P) (w := w) (base := base) T
  have c_Token := mak_Token (P := P) (w := w) (base := base) T
  obtain ⟨fd, F⟩ := T.def_ 16 (d := d_number_at) rfl
  refine cal_of F (g_number_at T) sc_number_at (fun _ _ _ _ _ _ us hl => match us, hl with | [_, _], _ => rfl) (fun vs H Q E h => ?_) fun cdv A outer s H vs Q E hr h => ⟨_, (pss_cons (ps_set (i := 2) sc_number_at.nd rfl (Or.inl rfl) (pv 1))
    (pss_cons (ps_while (passes_of rfl) (PW.pt (pw_and (pt_cmpR op_lt (pv 2) (pe_callB call_len_seq (by rfl) (f_len T) (by decide +kernel) (pa_cons (pv 0) pa_nil)) (nomark _)) (pw_and1 (pt_val (pe_c c_is_digit hr (by decide) passL (pa_cons (pe_ix ix_list (pv 0) (pv 2) (fun _ _ => rfl)) pa_nil)))))) (pss_one (ps_aug (i := 2) sc_number_at.nd rfl (Or.inl rfl) pe_int ip_add)))
    (pss_cons (ps_set (i := 3) sc_number_at.nd rfl (Or.inl rfl) (pe_callTy call_tuple_of (by rfl) (f_tuple T) (by decide +kernel) (pa_cons (pe_slice sl_list (pv 0) (po_some (pv 1)) (po_some (pv 2))) pa_nil)))
    (pss_cons (ps_if (PW.pt (pw_or (pt_cmpR op_gt (pe_callB call_len_seq (by rfl) (f_len T) (by decide +kernel) (pa_cons (pv 3) pa_nil)) (pe_gi (i_MOST_DIGITS T)) (nomark _)) (pw_or (PW.pt (pw_and (pt_cmpR op_gt (pe_callB call_len_seq (by rfl) (f_len T) (by decide +kernel) (pa_cons (pv 3) pa_nil)) pe_int (nomark _)) (pw_and1 (pt_cmpR op_eq (pe_ix ix_tup (pv 3) pe_int (fun _ _ => rfl)) pe_int (nomark _))))) (pw_or1 (pt_cmpR op_gt (pe_c c_number_of hr (by decide) passL (pa_cons (pv 3) pa_nil)) (pe_gi (i_MOST_NUMBER T)) (nomark _)))))) (pss_one (ps_raise rfl (takes_of rfl rfl rfl rfl) (pmk_ox (o_Fault T) c_Fault hr (by decide) (g_Fault T) (pa_cons (pe_gi (i_BAD_TOKEN T)) (pa_cons (pv 1) pa_nil))))) pss_nil)
    (pss_one (ps_ret (pe_mk c_Token hr (by decide) passL (pa_cons (pe_gs (s_NUMBER T)) (pa_cons (pv 3) (pa_cons (pv 1) pa_nil)))))))))), ?_⟩
  · obtain ⟨a, t, i, rfl, _⟩ := h
    rfl
  obtain ⟨a, t, i, rfl, ha, ht, hi, hc, hno, hf, q⟩ := h
  walk_at "go"
  refine while_to (fun σ H' => H' = H ∧ ∃ (e : Nat), σ = [some (.ref a), some (.int i), some (.int e), none] ∧ i ≤ e ∧ e ≤ t.length ∧ skipTo Vatsld.digit t e = skipTo Vatsld.digit t i)
    (fun σ H' => H' = H ∧ ∃ (e : Nat), σ = [some (.ref a), some (.int i), some (.int e), none] ∧ e ≤ t.length ∧ e = skipTo Vatsld.digit t i) (fun σ _ => match σ with
    | [_, _, some (.int e), _] => t.length - e.toNat
    | _ => 0) ⟨rfl, i, rfl, Nat.le_refl _, hi, rfl⟩ ?_ ?_
  · rintro Nx hNx σ H' ⟨rfl, e, rfl, h1, h2, h3⟩
    walk_at "go"
    refine ⟨_, _, rfl, .inl ha, ?_⟩
    walk_at "go"
    rw [dec_lt (vN_length t)]
    by_cases hlt : e < t.length
    · rw [decide_eq_true hlt]
      obtain ⟨c, hc⟩ : ∃ c, t[e]? = some c := ⟨_, List.getElem?_eq_getElem hlt⟩
      walk_at "go"
      refine ⟨_, _, _, _, rfl, rfl, ha, atI_nat (vN_get hc), ?_⟩
      walk_at "go"
      cases hin : Vatsld.digit c
      · exact hNx _ _ ⟨rfl, e, rfl, h2, by rw [← h3, skipTo_stop hc hin]⟩
      · refine turn ?_
        walk_at "go"
        refine ⟨⟨rfl, e + 1, rfl, by omega, by omega, by rw [← h3, skipTo_step hc hin]⟩, ?_⟩
        show t.length - (e + 1) < t.length - e
        omega
    · rw [decide_eq_false hlt]
      exact hNx _ _ ⟨rfl, e, rfl, h2, by rw [← h3, skipTo_end (by omega)]⟩
  · rintro σ H' ⟨rfl, e, rfl, h2, rfl⟩
    obtain ⟨c, hic⟩ : ∃ c, t[i]? = some c := by
      cases e : t[i]? with
      | none => exact absurd (hno e) (by decide)
      | some c => exact ⟨c, rfl⟩
    have hdc := (hc c hic).1
    have nsm : Vatsld.small c = false := by
      have z := hdc
      unfold Vatsld.digit at z
      unfold Vatsld.small
      simp at z ⊢
      omega
    have lx : lexAt t i = if Vatsld.goodNumber ((t.drop i).takeWhile Vatsld.digit) then .ok (.num (Vatsld.valueIn ((t.drop i).takeWhile Vatsld.digit)), (t.drop i).takeWhile Vatsld.digit) else .error 2 := by
      unfold lexAt
      rw [hic]
      dsimp only
      rw [if_neg (by rw [nsm]; decide), if_pos hdc]
    have cut : cutV (vN t) (some (i : Int)) (some (skipTo Vatsld.digit t i : Int)) = vN ((t.drop i).takeWhile Vatsld.digit) := by
      rw [cut_N le_skipTo h2]
      unfold skipTo
      rw [Nat.add_sub_cancel_left, take_takeWhile]
    obtain ⟨bs, hbs⟩ : ∃ bs, bs = (t.drop i).takeWhile Vatsld.digit := ⟨_, rfl⟩
    have hcons : ∃ r, bs = c :: r := ⟨(t.drop (i + 1)).takeWhile Vatsld.digit, by rw [hbs, drop_cons hic, List.takeWhile_cons, if_pos hdc]⟩
    have h48 : ∀ x ∈ bs, 48 ≤ x := fun x hx => by
      rw [hbs] at hx
      have z := all_takeWhile _ _ _ hx
      unfold Vatsld.digit at z
      simp at z
      omega
    rw [← hbs] at lx cut
    walk_at "go"
    refine ⟨_, _, rfl, ha, alloc fun p H1 e1 hp hn => ?_⟩
    refine ⟨_, _, rfl, .inl ⟨SqL.of hp, alloc fun l H2 e2 hl hn2 => ?_⟩⟩
    rw [cut] at hl
    have e12 := Same.trans e1 e2
    dsimp only
    refine tifs (!Vatsld.goodNumber bs) (fun R q => ?_) (fun hb => ?_) (fun hb => ?_)
    · have hgood : (!Vatsld.goodNumber bs) = (decide (4 < bs.length) || ((decide (1 < bs.length) && c == 48) || decide (1000 < Vatsld.valueIn bs))) := by
        obtain ⟨r, rfl⟩ := hcons
        exact good_not c r
      have hb0 : bs[0]? = some c := by
        obtain ⟨r, rfl⟩ := hcons
        rfl
      rw [hgood] at q
      refine tor _ _ (fun R q => ?_) (fun _ R q => tor _ _ (fun R q => tand _ _ (fun R q => ?_) (fun _ R q => ?_) q) (fun _ R q => ?_) q) q
      · walk_at "go"
        refine ⟨_, _, rfl, .inr (.inl (.inl hl)), ?_⟩
        walk_at "go"
        rw [vN_length, show decide ((4 : Int) < ((bs.length : Nat) : Int)) = decide (4 < bs.length) from decide_eq_decide.mpr (by omega)]
        exact q
      · walk_at "go"
        refine ⟨_, _, rfl, .inr (.inl (.inl hl)), ?_⟩
        walk_at "go"
        rw [vN_length, show decide ((1 : Int) < ((bs.length : Nat) : Int)) = decide (1 < bs.length) from decide_eq_decide.mpr (by omega)]
        exact q
      · walk_at "go"
        refine ⟨_, _, _, _, rfl, rfl, .inl (.inl hl), atI_nat (j := 0) (vN_get hb0), ?_⟩
        walk_at "go"
        refine ⟨rfl, ?_⟩
        walk_at "go"
        rw [show decide (V.int (c : Int) = V.int 48) = (c == 48) by rw [dec_int]; exact int_beq c 48]
        exact q
      · walk_at "go"
        refine ⟨_, _, rfl, .inl (.inl hl), h48, ?_⟩
        walk_at "go"
        rw [show decide ((1000 : Int) < ((Vatsld.valueIn bs : Nat) : Int)) = decide (1000 < Vatsld.valueIn bs) from decide_eq_decide.mpr (by omega)]
        exact q
    · walk_at "go"
      exact ⟨of_decide_eq_true rfl, fun a' ha' => FE.made (k := 2) (FE.of (hf 2 (by rw [lx, if_neg (by simpa using hb)])) (Keep.of e12) fun _ z => z) ha'⟩
    · walk_at "go"
      rw [if_pos (by simpa using hb)] at lx
      exact made_Token (m := .num) hl fun x H5 e5 hx => q _ _ x H5 lx (Same.trans e12 e5) hx
end
end
section
local macro_rules | `(tactic| walk_at "v") => `(tactic| refine ⟨_, rfl, ?_⟩)
local macro_rules | `(tactic| walk_at "ii") => `(tactic| refine ⟨_, _, rfl, rfl, ?_⟩)
local macro_rules | `(tactic| walk_at "no") => `(tactic| first | exact n_Plan_groups ‹_› | exact n_Plan_tests ‹_› | exact n_Group_name ‹_› | exact n_Group_cost ‹_› | exact n_Test_name ‹_› | exact n_Test_cost ‹_› | exact n_Test_chance ‹_› | exact n_Test_group ‹_› | exact n_Test_behind ‹_› | exact n_Token_mark ‹_› | exact n_Token_some ‹_› | exact n_Token_place ‹_› | exact n_Reader_text ‹_› | exact n_Reader_at ‹_› | exact n_Reader_seen ‹_› | exact n_Search_plan ‹_› | exact n_Search_known ‹_› | exact n_Desk_plan ‹_›)
local macro_rules | `(tactic| walk_at "cl") => `(tactic| first | exact c_Plan ‹_› | exact c_Test ‹_› | exact c_Group ‹_› | exact c_Token ‹_› | exact c_Reader ‹_› | exact c_Search ‹_› | exact c_Desk ‹_›)
local macro_rules | `(tactic| walk_at "f") => `(tactic| (refine ⟨_, _, _, _, _, rfl, by first | assumption | exact upd_same, ?cl, ?no, rfl, ?_⟩; (case cl => walk_at "cl"); (case no => walk_at "no")))
local macro_rules | `(tactic| walk_at "m") => `(tactic| refine ⟨_, _, _, rfl, by first | assumption | exact upd_same, rfl, ?_⟩)
local macro_rules | `(tactic| walk_at "go") => `(tactic| repeat (first | walk_at "v" | walk_at "ii" | walk_at "f" | walk_at "m"))
local macro_rules | `(tactic| walk_at "s") => `(tactic| (refine ⟨_, _, _, _, rfl, by first | assumption | exact upd_same, ?cl, ?no, of_decide_eq_true rfl, ?_⟩; (case cl => walk_at "cl"); (case no => walk_at "no")))
abbrev N_token_at : List Str := ["text", "at", "sign"]
theorem sc_token_at : FnScope N_token_at ["text", "at"] (defScope s_token_at) := C8.fnScope_by (by decide +kernel)
abbrev N_Reader_init : List Str := ["self", "text"]
theorem sc_Reader_init : FnScope N_Reader_init ["self", "text"] (defScope s_Reader_init) := C8.fnScope_by (by decide +kernel)
abbrev N_Reader_begin : List Str := ["self"]
theorem sc_Reader_begin : FnScope N_Reader_begin ["self"] (defScope s_Reader_begin) := C8.fnScope_by (by decide +kernel)
section
variable {P : Program} {w : World} {K : PySem.W.Frag} {mg : Str → Option Value} {base : Heap}
def sgs : List Tp.Mk := [.comma, .semi]
theorem sgs_get {i : Nat} {v : V} (h : [V.str ",", V.str ";"][i]? = some v) : ∃ (m : Tp.Mk) (c : Nat), sgs[i]? = some m ∧ v = .str (Str.ofString m.str) ∧ (Str.ofString m.str).cps.toList = [c] ∧ (c = 44 ∧ m = .comma ∨ c = 59 ∧ m = .semi) ∧ (c = 44 ↔ i = 0) := by
  rcases i with _ | _ | i
  · cases h
    exact ⟨.comma, 44, rfl, rfl, by decide, .inl ⟨rfl, rfl⟩, by decide⟩
  · cases h
    exact ⟨.semi, 59, rfl, rfl, by decide, .inr ⟨rfl, rfl⟩, by decide⟩
  · cases h
theorem dec_nat {a b : Nat} : decide (V.int (a : Int) = V.int (b : Int)) = decide (a = b) := by
  rw [dec_int, int_beq, Bool.eq_iff_iff]
  simp
theorem cal_token_at (T : Tx K mg) : Cal P w K mg base 4 "token_at" (sp_tok K fun _ => true) := by
  have c_is_small := cal_is_small (P := P) (w := w) (base := base) T
  have c_is_digit := cal_is_digit (P := P) (w := w) (base := base) T
  have c_bytes_of := cal_bytes_of (P := P) (w := w) (base := base) T
  have c_word_at := cal_word_at (P := P) (w := w) (base := base) T
  have c_number_at := cal_number_at (P := P) (w := w) (base := base) T
  have c_Fault := oxi_Fault (P := P) (w := w) (base := base) T
  have c_Token := mak_Token (P := P) (w := w) (base := base) T
  obtain ⟨fd, F⟩ := T.def_ 17 (d := d_token_at) rfl
  refine cal_of F (g_token_at T) sc_token_at (fun _ _ _ _ _ _ us hl => match us, hl with | [_, _], _ => rfl) (fun vs H Q E h => ?_) fun cdv A outer s H vs Q E hr h => ⟨_, (pss_cons (ps_if (pt_cmpR op_eq (pv 1) (pe_callB call_len_seq (by rfl) (f_len T) (by decide +kernel) (pa_cons (pv 0) pa_nil)) (nomark _)) (pss_one (ps_ret (pe_mk c_Token hr (by decide) passL (pa_cons (pe_gs (s_END T)) (pa_cons (pe_tup pa_nil) (pa_cons (pv 1) pa_nil)))))) pss_nil)
    (pss_cons (ps_if (pt_val (pe_c c_is_small hr (by decide) passL (pa_cons (pe_ix ix_list (pv 0) (pv 1) (fun _ _ => rfl)) pa_nil))) (pss_one (ps_ret (pe_c c_word_at hr (by decide) (passes_call (takes_of rfl rfl rfl rfl) fun _ _ _ _ z => z) (pa_cons (pv 0) (pa_cons (pv 1) pa_nil))))) pss_nil)
    (pss_cons (ps_if (pt_val (pe_c c_is_digit hr (by decide) passL (pa_cons (pe_ix ix_list (pv 0) (pv 1) (fun _ _ => rfl)) pa_nil))) (pss_one (ps_ret (pe_c c_number_at hr (by decide) (passes_call (takes_of rfl rfl rfl rfl) fun _ _ _ _ z => z) (pa_cons (pv 0) (pa_cons (pv 1) pa_nil))))) pss_nil)
    (pss_cons (ps_for (passes_of rfl) rfl (pi_tup (pe_gr (g_SIGNS T))) (pg_name (i := 2) sc_token_at.nd rfl (Or.inl rfl)) (pss_one (ps_if (pt_cmpR (op_eqD hr.units) (pe_tup (pa_cons (pe_ix ix_list (pv 0) (pv 1) (fun _ _ => rfl)) pa_nil)) (pe_c c_bytes_of hr (by decide) passL (pa_cons (pv 2) pa_nil)) (nomark _)) (pss_one (ps_ret (pe_mk c_Token hr (by decide) passL (pa_cons (pv 2) (pa_cons (pe_tup (pa_cons (pe_ix ix_list (pv 0) (pv 1) (fun _ _ => rfl)) pa_nil)) (pa_cons (pv 1) pa_nil)))))) pss_nil)))
    (pss_one (ps_raise rfl (takes_of rfl rfl rfl rfl) (pmk_ox (o_Fault T) c_Fault hr (by decide) (g_Fault T) (pa_cons (pe_gi (i_NO_TOKEN T)) (pa_cons (pv 1) pa_nil))))))))), ?_⟩
  · obtain ⟨a, t, i, rfl, _⟩ := h
    rfl
  obtain ⟨a, t, i, rfl, ha, ht, hi, hc, hno, hf, q⟩ := h
  walk_at "go"
  refine ⟨_, _, rfl, .inl ha, ?_⟩
  refine ⟨rfl, ?_⟩
  walk_at "go"
  rw [vN_length, dec_nat]
  cases hic : t[i]? with
  | none =>
    have hle : t.length ≤ i := List.getElem?_eq_none_iff.mp hic
    have lx : lexAt t i = .ok (.over, []) := by
      unfold lexAt
      rw [hic]
    rw [decide_eq_true (by omega)]
    walk_at "go"
    refine ⟨Nat.zero_le _, fun p hn => ?_⟩
    have e1 := Same.new (o := HO.tup []) hn
    have hp : upd H p (HO.tup []) p = some (.tup (vN [])) := upd_same
    generalize upd H p (HO.tup []) = H1 at e1 hp ⊢
    walk_at "go"
    exact made_Token (m := .over) (bs := []) hp fun x H5 e5 hx => q _ _ x H5 lx (Same.trans e1 e5) hx
  | some c =>
    have hlt : i < t.length := (List.getElem?_eq_some_iff.mp hic).1
    have hgap := (hc c hic).2
    rw [decide_eq_false (by omega)]
    walk_at "go"
    refine ⟨_, _, _, _, rfl, rfl, ha, atI_nat (vN_get hic), ?_⟩
    walk_at "go"
    cases hs : Vatsld.small c
    · walk_at "go"
      refine ⟨_, _, _, _, rfl, rfl, ha, atI_nat (vN_get hic), ?_⟩
      walk_at "go"
      cases hd : Vatsld.digit c
      · have lx : lexAt t i = if c == 44 || c == 59 then .ok (.sign c, [c]) else .error 1 := by
          unfold lexAt
          rw [hic]
          dsimp only
          rw [if_neg (by rw [hs]; decide), if_neg (by rw [hd]; decide)]
        walk_at "go"
        refine ⟨⟨_, t_SIGNS T _⟩, for_tup (xs := [V.str ",", V.str ";"]) (fun k σ H'' => Same H H'' ∧ (∃ v, σ = [some (.ref a), some (.int i), v]) ∧ (1 ≤ k → c ≠ 44) ∧ (2 ≤ k → c ≠ 59))
          ⟨Same.refl _, ⟨none, rfl⟩, fun z => absurd z (by decide), fun z => absurd z (by decide)⟩ (fun _ _ H'' _ _ => t_SIGNS T _) ?_ ?_⟩
        · rintro k x σ H3 hx ⟨e3, ⟨v, rfl⟩, h44, h59⟩
          obtain ⟨m, c', hm, rfl, hz, hcm, hk⟩ := sgs_get hx
          have hk2 : k < 2 := (List.getElem?_eq_some_iff.mp hm).1
          walk_at "go"
          refine ⟨_, _, _, _, rfl, rfl, L2.Same.seq e3 ha, atI_nat (vN_get hic), ?_⟩
          refine ⟨of_decide_eq_true rfl, fun p4 hn4 => ?_⟩
          generalize hH4 : upd H3 p4 _ = H4
          obtain ⟨e4, hp4⟩ := new_at hn4 hH4
          walk_at "go"
          refine ⟨by rw [hz]; exact of_decide_eq_true rfl, fun p5 H5 e5 hp5 => ?_⟩
          rw [hz] at hp5
          refine ⟨_, _, .tup (.inl (.inl (e5 _ _ hp4))) (dp_N [c]), .tup (.inl (.inl hp5)) (dp_N [c']), shT_N _, shT_N _, ?_⟩
          rw [eqT_N]
          walk_at "go"
          have e345 := Same.trans e3 (Same.trans e4 e5)
          by_cases heq : c = c'
          · subst heq
            rw [decide_eq_true rfl]
            walk_at "go"
            refine ⟨_, _, _, _, rfl, rfl, L2.Same.seq e345 ha, atI_nat (vN_get hic), ?_⟩
            refine ⟨of_decide_eq_true rfl, fun p6 hn6 => ?_⟩
            generalize hH6 : upd H5 p6 _ = H6
            obtain ⟨e6, hp6⟩ := new_at hn6 hH6
            walk_at "go"
            rw [if_pos (by rcases hcm with ⟨rfl, _⟩ | ⟨rfl, _⟩ <;> rfl)] at lx
            refine made_Token (m := m) (bs := [c]) hp6 fun x H7 e7 hx => q _ _ x H7 lx (Same.trans e345 (Same.trans e6 e7)) ?_
            have em : markOf (.sign c) = m := by rcases hcm with ⟨rfl, rfl⟩ | ⟨rfl, rfl⟩ <;> rfl
            rw [em]
            exact hx
          · rw [decide_eq_false (by simpa using heq)]
            refine ⟨e345, ⟨_, rfl⟩, fun z => ?_, fun z => ?_⟩
            · rcases Nat.eq_zero_or_pos k with h0 | h0
              · rcases hcm with ⟨rfl, _⟩ | ⟨rfl, _⟩
                · exact heq
                · exact absurd (hk.mpr h0) (by decide)
              · exact h44 h0
            · rcases hcm with ⟨rfl, _⟩ | ⟨rfl, _⟩
              · have := hk.mp rfl
                omega
              · exact heq
        · rintro σ H3 ⟨e3, ⟨v, rfl⟩, h44, h59⟩
          walk_at "go"
          rw [if_neg (by
            have a1 := h44 (by decide)
            have a2 := h59 (by decide)
            simp [a1, a2])] at lx
          exact ⟨of_decide_eq_true rfl, fun a' ha' => FE.made (k := 1) (FE.of (hf 1 lx) (Keep.of e3) fun _ z => z) ha'⟩
      · walk_at "v"
        walk_at "v"
        exact ⟨a, t, i, rfl, ha, ht, hi, fun c' hc' => (by rw [hic] at hc'; cases hc'; exact ⟨hd, hgap⟩), fun z => (by rw [hic] at z; cases z), hf, q⟩
    · walk_at "v"
      walk_at "v"
      exact ⟨a, t, i, rfl, ha, ht, hi, fun c' hc' => (by rw [hic] at hc'; cases hc'; exact ⟨hs, hgap⟩), fun z => (by rw [hic] at z; cases z), hf, q⟩
/-! ### the reader -/
def sp_Reader (K : PySem.W.Frag) : Sp := fun vs H Q _ => ∃ (r dx tx : Addr), vs = [.ref r, .ref tx] ∧ H r = some (.ins (He.ga K "Reader") dx []) ∧
  ∀ H', (∃ dx, H' r = some (.ins (He.ga K "Reader") dx [("text", .ref tx), ("at", .int 0), ("seen", .non)])) → (∀ b o, H b = some o → b ≠ r → H' b = some o) → Q .non H'
theorem mak_Reader (T : Tx K mg) : Mak P w K mg base 1 "Reader" (sp_Reader K) := by
  obtain ⟨fd, F⟩ := T.def_ 18 (d := d_Reader_init) rfl
  refine mak_of F (mk_Reader T) (g_Reader T) sc_Reader_init (fun _ _ _ _ _ _ us hl => match us, hl with | [_, _], _ => rfl) (fun vs H Q E h => ?_) fun cdv A outer s H vs Q E hr h => ⟨_, (pss_cons (ps_fld (pv 0) (pv 1) rfl)
    (pss_cons (ps_fld (pv 0) pe_int rfl)
    (pss_one (ps_fld (pv 0) pe_non rfl)))), ?_⟩
  · obtain ⟨r, dx, tx, rfl, _⟩ := h
    rfl
  obtain ⟨r, dx, tx, rfl, hx, q⟩ := h
  walk_at "go"
  walk_at "s"
  walk_at "go"
  walk_at "s"
  walk_at "go"
  walk_at "s"
  refine q _ ⟨dx, upd_same⟩ fun b o hb hbx => ?_
  rw [upd_ne hbx, upd_ne hbx, upd_ne hbx]
  exact hb
structure RdX (K : PySem.W.Frag) (H : Hp) (r dx tx : Addr) (t : List Nat) (i : Nat) (v : V) : Prop where
  hr : H r = some (.ins (He.ga K "Reader") dx [("text", .ref tx), ("at", .int i), ("seen", v)])
  ht : H tx = some (.lst (vN t))
  hi : i ≤ t.length
theorem RdX.put {H : Hp} {r dx tx : Addr} {t : List Nat} {i j : Nat} {v v' : V} (h : RdX K H r dx tx t i v) (hj : j ≤ t.length) : RdX K (upd H r (.ins (He.ga K "Reader") dx [("text", .ref tx), ("at", .int j), ("seen", v')])) r dx tx t j v' := by
  refine ⟨upd_same, ?_, hj⟩
  rw [upd_ne (ne_of h.hr h.ht (fun z => by cases z)).symm]
  exact h.ht
theorem RdX.same {H H' : Hp} {r dx tx : Addr} {t : List Nat} {i : Nat} {v : V} (e : Same H H') (h : RdX K H r dx tx t i v) : RdX K H' r dx tx t i v := ⟨e _ _ h.hr, e _ _ h.ht, h.hi⟩
def sp_begin (K : PySem.W.Frag) : Sp := fun vs H Q _ => ∃ (r dx tx : Addr) (t : List Nat) (i : Nat) (v : V), vs = [.ref r] ∧ RdX K H r dx tx t i v ∧
  ∀ j H', Keep [r] H H' → RdX K H' r dx tx t j v → toksAt t j = toksAt t i → (∀ c, t[j]? = some c → gap c = false) → Q (.int (j : Nat)) H'
theorem in_BLANKS (c : Nat) : inV (.int (c : Int)) [V.int 9, V.int 10, V.int 13, V.int 32] = Vatsld.blank c := by
  have e : inV (.int (c : Int)) (vN [9, 10, 13, 32]) = [9, 10, 13, 32].contains c := in_N c _
  refine Eq.trans e ?_
  unfold Vatsld.blank
  rw [Bool.eq_iff_iff]
  simp [List.contains_cons, or_assoc]
def gapAt (t : List Nat) (j : Nat) : Bool := (t[j]?).elim false gap
theorem gapAt_some {t : List Nat} {j c : Nat} (h : t[j]? = some c) : gapAt t j = gap c := by
  unfold gapAt
  rw [h] <;> rfl
theorem gapAt_none {t : List Nat} {j : Nat} (h : t[j]? = none) : gapAt t j = false := by
  unfold gapAt
  rw [h] <;> rfl
theorem met_begin (T : Tx K mg) : Met P w K mg base 1 "Reader" "begin" (sp_begin K) := by
  obtain ⟨fd, F⟩ := T.def_ 19 (d := d_Reader_begin) rfl
  refine met_of F (c_Reader T) (m_Reader_begin T) sc_Reader_begin (fun _ _ _ _ _ _ us hl => match us, hl with | [_], _ => rfl) (fun vs H Q E h => ?_) fun cdv A outer s H vs Q E hr h => ⟨_, (pss_cons (ps_while (passes_of rfl) (PW.pt (pw_and (pt_cmpR op_lt (pe_fld (pv 0) rfl) (pe_callB call_len_seq (by rfl) (f_len T) (by decide +kernel) (pa_cons (pe_fld (pv 0) rfl) pa_nil)) (nomark _)) (pw_and1 (PW.pt (pw_or (pt_cmpR op_in_seq (pe_ix ix_list (pe_fld (pv 0) rfl) (pe_fld (pv 0) rfl) (fun _ _ => rfl)) (pe_gr (g_BLANKS T)) rfl) (pw_or1 (pt_cmpR op_eq (pe_ix ix_list (pe_fld (pv 0) rfl) (pe_fld (pv 0) rfl) (fun _ _ => rfl)) (pe_gi (i_HASH T)) (nomark _)))))))) (pss_one (ps_if (pt_cmpR op_eq (pe_ix ix_list (pe_fld (pv 0) rfl) (pe_fld (pv 0) rfl) (fun _ _ => rfl)) (pe_gi (i_HASH T)) (nomark _)) (pss_one (ps_while (passes_of rfl) (PW.pt (pw_and (pt_cmpR op_lt (pe_fld (pv 0) rfl) (pe_callB call_len_seq (by rfl) (f_len T) (by decide +kernel) (pa_cons (pe_fld (pv 0) rfl) pa_nil)) (nomark _)) (pw_and1 (pt_cmpR op_ne (pe_ix ix_list (pe_fld (pv 0) rfl) (pe_fld (pv 0) rfl) (fun _ _ => rfl)) (pe_gi (i_LINE_END T)) (nomark _))))) (pss_one (ps_fldaug (pv 0) pe_int in_add)))) (pss_one (ps_fldaug (pv 0) pe_int in_add)))))
    (pss_one (ps_ret (pe_fld (pv 0) rfl)))), ?_⟩
  · obtain ⟨r, dx, tx, t, i, v, rfl, _⟩ := h
    rfl
  obtain ⟨r, dx, tx, t, i, v, rfl, hrd, q⟩ := h
  walk_at "go"
  refine while_to (fun σ H' => σ = [some (.ref r)] ∧ Keep [r] H H' ∧ ∃ j : Nat, RdX K H' r dx tx t j v ∧ toksAt t j = toksAt t i)
    (fun σ H' => σ = [some (.ref r)] ∧ Keep [r] H H' ∧ ∃ j : Nat, RdX K H' r dx tx t j v ∧ toksAt t j = toksAt t i ∧ ∀ c, t[j]? = some c → gap c = false) (fun _ H' => match H' r with
    | some (.ins _ _ [_, (_, .int j), _]) => t.length - j.toNat
    | _ => 0) ⟨rfl, Keep.refl, i, hrd, rfl⟩ ?_ ?_
  · rintro Nx hNx σ H1 ⟨rfl, k1, j, h1, htk⟩
    have hr1 := h1.hr
    refine tand (decide (j < t.length)) (gapAt t j) (fun R q => ?_) (fun hlt R q => ?_) ?_
    · walk_at "go"
      refine ⟨_, _, rfl, .inl (SqL.of h1.ht), ?_⟩
      walk_at "go"
      rw [dec_lt (vN_length t)]
      exact q
    · have hlt := of_decide_eq_true hlt
      obtain ⟨c, hc⟩ : ∃ c, t[j]? = some c := ⟨_, List.getElem?_eq_getElem hlt⟩
      rw [gapAt_some hc] at q
      refine tor (Vatsld.blank c) (c == 35) (fun R q => ?_) (fun _ R q => ?_) q
      · walk_at "go"
        refine ⟨_, _, _, _, rfl, rfl, SqL.of h1.ht, atI_nat (vN_get hc), ?_⟩
        walk_at "go"
        refine ⟨_, _, rfl, .inr (t_BLANKS T _), rfl, rfl, ?_⟩
        walk_at "go"
        rw [if_neg (by decide), in_BLANKS]
        exact q
      · walk_at "go"
        refine ⟨_, _, _, _, rfl, rfl, SqL.of h1.ht, atI_nat (vN_get hc), ?_⟩
        walk_at "go"
        refine ⟨rfl, ?_⟩
        walk_at "go"
        rw [show decide (V.int (c : Int) = V.int 35) = (c == 35) by rw [dec_int]; exact int_beq c 35]
        exact q
    · cases hc : t[j]? with
      | none =>
        have hge : t.length ≤ j := List.getElem?_eq_none_iff.mp hc
        rw [gapAt_none hc, Bool.and_false]
        exact hNx _ _ ⟨rfl, k1, j, h1, htk, fun c z => by rw [hc] at z; cases z⟩
      | some c =>
        have hlt : j < t.length := (List.getElem?_eq_some_iff.mp hc).1
        rw [gapAt_some hc, decide_eq_true hlt, Bool.true_and]
        cases hg : gap c with
        | false => exact hNx _ _ ⟨rfl, k1, j, h1, htk, fun c' z => by rw [hc] at z; cases z; exact hg⟩
        | true =>
          refine turn ?_
          refine tif (c == 35) (fun R q => ?_) (fun hb => ?_) (fun hb => ?_)
          · walk_at "go"
            refine ⟨_, _, _, _, rfl, rfl, SqL.of h1.ht, atI_nat (vN_get hc), ?_⟩
            walk_at "go"
            refine ⟨rfl, ?_⟩
            walk_at "go"
            rw [show decide (V.int (c : Int) = V.int 35) = (c == 35) by rw [dec_int]; exact int_beq c 35]
            exact q
          · have hc35 : c = 35 := by simpa using hb
            subst hc35
            refine while_to (fun σ H' => σ = [some (.ref r)] ∧ Keep [r] H H' ∧ ∃ j' : Nat, RdX K H' r dx tx t j' v ∧ j ≤ j' ∧ skipTo (fun x => x != 10) t j' = skipTo (fun x => x != 10) t j)
              (fun σ H' => σ = [some (.ref r)] ∧ Keep [r] H H' ∧ ∃ j' : Nat, RdX K H' r dx tx t j' v ∧ j' = skipTo (fun x => x != 10) t j) (fun _ H' => match H' r with
              | some (.ins _ _ [_, (_, .int j), _]) => t.length - j.toNat
              | _ => 0) ⟨rfl, k1, j, h1, Nat.le_refl _, rfl⟩ ?_ ?_
            · rintro Nx2 hNx2 σ H2 ⟨rfl, k2, j2, h2, hj2, hs2⟩
              have hr2 := h2.hr
              walk_at "go"
              refine ⟨_, _, rfl, .inl (SqL.of h2.ht), ?_⟩
              walk_at "go"
              rw [dec_lt (vN_length t)]
              by_cases hlt2 : j2 < t.length
              · rw [decide_eq_true hlt2]
                obtain ⟨c2, hc2⟩ : ∃ c, t[j2]? = some c := ⟨_, List.getElem?_eq_getElem hlt2⟩
                walk_at "go"
                refine ⟨_, _, _, _, rfl, rfl, SqL.of h2.ht, atI_nat (vN_get hc2), ?_⟩
                walk_at "go"
                refine ⟨rfl, ?_⟩
                walk_at "go"
                rw [show (!decide (V.int (c2 : Int) = V.int 10)) = (c2 != 10) by rw [dec_int]; exact congrArg (!·) (int_beq c2 10)]
                cases h10 : (c2 != 10) with
                | false => exact hNx2 _ _ ⟨rfl, k2, j2, h2, by rw [← hs2, skipTo_stop hc2 h10]⟩
                | true =>
                  refine turn ?_
                  walk_at "go"
                  refine ⟨_, _, hr2, of_decide_eq_true rfl, ?_⟩
                  refine ⟨⟨rfl, Keep.upd k2 (.inl (List.mem_singleton.mpr rfl)), j2 + 1, h2.put (j := j2 + 1) (by omega), by omega, by rw [← hs2, skipTo_step hc2 h10]⟩, ?_⟩
                  rw [hr2]
                  show (match upd H2 r (.ins (He.ga K "Reader") dx [("text", .ref tx), ("at", .int ((j2 : Int) + 1)), ("seen", v)]) r with
                    | some (.ins _ _ [_, (_, .int j), _]) => t.length - j.toNat
                    | _ => 0) < t.length - j2
                  rw [upd_same]
                  show t.length - (j2 + 1) < t.length - j2
                  omega
              · rw [decide_eq_false hlt2]
                exact hNx2 _ _ ⟨rfl, k2, j2, h2, by rw [← hs2, skipTo_end (by omega)]⟩
            · rintro σ H2 ⟨rfl, k2, j2, h2, rfl⟩
              refine ⟨⟨rfl, k2, _, h2, by rw [← toksAt_remark hc]; exact htk⟩, ?_⟩
              dsimp only
              rw [h2.hr, h1.hr]
              show t.length - skipTo (fun x => x != 10) t j < t.length - j
              have := @le_skipTo (fun x => x != 10) t (j + 1)
              rw [skipTo_step hc rfl]
              omega
          · have hbl : Vatsld.blank c = true := by
              unfold gap at hg
              rw [hb, Bool.or_false] at hg
              exact hg
            walk_at "go"
            refine ⟨_, _, hr1, of_decide_eq_true rfl, ?_⟩
            refine ⟨⟨rfl, Keep.upd k1 (.inl (List.mem_singleton.mpr rfl)), j + 1, h1.put (j := j + 1) (by omega), by rw [← toksAt_blank hc hbl]; exact htk⟩, ?_⟩
            rw [hr1]
            show (match upd H1 r (.ins (He.ga K "Reader") dx [("text", .ref tx), ("at", .int ((j : Int) + 1)), ("seen", v)]) r with
              | some (.ins _ _ [_, (_, .int j), _]) => t.length - j.toNat
              | _ => 0) < t.length - j
            rw [upd_same]
            show t.length - (j + 1) < t.length - j
            omega
  · rintro σ H1 ⟨rfl, k1, j, h1, htk, hg⟩
    have hr1 := h1.hr
    walk_at "go"
    exact q j H1 k1 h1 htk hg
end
end
section
local macro_rules | `(tactic| walk_at "v") => `(tactic| refine ⟨_, rfl, ?_⟩)
local macro_rules | `(tactic| walk_at "ii") => `(tactic| refine ⟨_, _, rfl, rfl, ?_⟩)
local macro_rules | `(tactic| walk_at "no") => `(tactic| first | exact n_Plan_groups ‹_› | exact n_Plan_tests ‹_› | exact n_Group_name ‹_› | exact n_Group_cost ‹_› | exact n_Test_name ‹_› | exact n_Test_cost ‹_› | exact n_Test_chance ‹_› | exact n_Test_group ‹_› | exact n_Test_behind ‹_› | exact n_Token_mark ‹_› | exact n_Token_some ‹_› | exact n_Token_place ‹_› | exact n_Reader_text ‹_› | exact n_Reader_at ‹_› | exact n_Reader_seen ‹_› | exact n_Search_plan ‹_› | exact n_Search_known ‹_› | exact n_Desk_plan ‹_›)
local macro_rules | `(tactic| walk_at "cl") => `(tactic| first | exact c_Plan ‹_› | exact c_Test ‹_› | exact c_Group ‹_› | exact c_Token ‹_› | exact c_Reader ‹_› | exact c_Search ‹_› | exact c_Desk ‹_›)
local macro_rules | `(tactic| walk_at "f") => `(tactic| (refine ⟨_, _, _, _, _, rfl, by first | assumption | exact upd_same, ?cl, ?no, rfl, ?_⟩; (case cl => walk_at "cl"); (case no => walk_at "no")))
local macro_rules | `(tactic| walk_at "m") => `(tactic| refine ⟨_, _, _, rfl, by first | assumption | exact upd_same, rfl, ?_⟩)
local macro_rules | `(tactic| walk_at "go") => `(tactic| repeat (first | walk_at "v" | walk_at "ii" | walk_at "f" | walk_at "m"))
local macro_rules | `(tactic| walk_at "s") => `(tactic| (refine ⟨_, _, _, _, rfl, by first | assumption | exact upd_same, ?cl, ?no, of_decide_eq_true rfl, ?_⟩; (case cl => walk_at "cl"); (case no => walk_at "no")))
/-- what a token's bytes are -/
def BsOk : Vatsld.Tok → List Nat → Prop
  | .word w, bs => bs = w
  | .num n, bs => n = Vatsld.valueIn bs ∧ ∀ c ∈ bs, 48 ≤ c
  | .sign c, bs => bs = [c]
  | .over, bs => bs = []
  | .bad _, _ => False
theorem lex_ok {t : List Nat} {i : Nat} {tok : Vatsld.Tok} {bs : List Nat} (h : lexAt t i = .ok (tok, bs)) (hi : i ≤ t.length) : BsOk tok bs ∧ i + bs.length ≤ t.length ∧ (tok = .over → i = t.length) := by
  unfold lexAt at h
  cases hc : t[i]? with
  | none =>
    rw [hc] at h
    cases h
    have := List.getElem?_eq_none_iff.mp hc
    exact ⟨rfl, by simpa using hi, fun _ => by omega⟩
  | some c =>
    have hlt : i < t.length := (List.getElem?_eq_some_iff.mp hc).1
    rw [hc] at h
    dsimp only at h
    have tw : ∀ p : Nat → Bool, i + ((t.drop i).takeWhile p).length ≤ t.length := fun p => by
      have := takeWhile_le p (t.drop i)
      rw [List.length_drop] at this
      omega
    split at h
    · split at h
      · cases h
      · cases h
        exact ⟨rfl, tw _, fun z => by cases z⟩
    · split at h
      · split at h
        · cases h
          refine ⟨⟨rfl, fun x hx => ?_⟩, tw _, fun z => by cases z⟩
          have z := all_takeWhile _ _ _ hx
          unfold Vatsld.digit at z
          simp at z
          omega
        · cases h
      · split at h
        · cases h
          exact ⟨rfl, hlt, fun z => by cases z⟩
        · cases h
theorem mk_inj : ∀ a b : Tp.Mk, Str.ofString a.str = Str.ofString b.str → a = b := by
  intro a b
  cases a <;> cases b <;> first | (intro _; rfl) | (intro h; exact absurd h (by decide))
theorem dec_mk (a b : Tp.Mk) : decide (V.str (Str.ofString a.str) = V.str (Str.ofString b.str)) = decide (a = b) := by
  refine decide_eq_decide.mpr ⟨fun h => mk_inj a b (by injection h), fun h => by rw [h]⟩
section
variable {K : PySem.W.Frag} {H : Hp}
/-- the reader has the token x (at i) in hand -/
def Seen (K : PySem.W.Frag) (H : Hp) (r dx tx : Addr) (t : List Nat) (i : Nat) (x : Addr) (tok : Vatsld.Tok) (bs : List Nat) : Prop := RdX K H r dx tx t i (.ref x) ∧ TokAt K H x (markOf tok) bs i ∧ lexAt t i = .ok (tok, bs)
/-- the reader's tokens yet to come -/
def Rds (K : PySem.W.Frag) (H : Hp) (r dx tx : Addr) (t : List Nat) (ts : Vatsld.Toks) : Prop :=
  (∃ i, RdX K H r dx tx t i .non ∧ ts = toksAt t i) ∨ ∃ i x tok bs, Seen K H r dx tx t i x tok bs ∧ ts = toksOf t i (.ok (tok, bs))
theorem Rds.same {H' : Hp} {r dx tx : Addr} {t : List Nat} {ts : Vatsld.Toks} (e : Same H H') (h : Rds K H r dx tx t ts) : Rds K H' r dx tx t ts := by
  rcases h with ⟨i, h1, h2⟩ | ⟨i, x, tok, bs, ⟨h1, h2, h3⟩, h4⟩
  · exact .inl ⟨i, h1.same e, h2⟩
  · exact .inr ⟨i, x, tok, bs, ⟨h1.same e, h2.same e, h3⟩, h4⟩
theorem Rds.sgn {r dx tx : Addr} {t : List Nat} {ts : Vatsld.Toks} (h : Rds K H r dx tx t ts) : SgnOk ts := by
  rcases h with ⟨i, h1, rfl⟩ | ⟨i, x, tok, bs, ⟨h1, h2, h3⟩, rfl⟩
  · exact sgnOk t i
  · cases tok with
    | sign c => exact lex_sign h3
    | _ => trivial
theorem TokAt.ne {x r dx tx : Addr} {m : Tp.Mk} {bs : List Nat} {p : Nat} {t : List Nat} {i : Nat} {v : V} (h : TokAt K H x m bs p) (h2 : RdX K H r dx tx t i v) : x ≠ r := by
  obtain ⟨dx', b, h3, h4⟩ := h
  refine (ne_of h3 h2.hr fun z => ?_)
  injection z with z1 z2 z3
  injection z3 with z3 z4
  injection z3 with z5 z6
  exact absurd z5 (by decide)
theorem TokAt.put {x r dx tx : Addr} {m : Tp.Mk} {bs : List Nat} {p : Nat} {t : List Nat} {i : Nat} {v : V} {o : HO} (h : TokAt K H x m bs p) (h2 : RdX K H r dx tx t i v) : TokAt K (upd H r o) x m bs p := by
  have n := h.ne h2
  obtain ⟨dx', b, h3, h4⟩ := h
  exact ⟨dx', b, by rw [upd_ne n]; exact h3, by rw [upd_ne (ne_of h4 h2.hr fun z => by cases z)]; exact h4⟩
theorem Keep.back {r : Addr} {H' : Hp} {a : Addr} {o : HO} (k : Keep [r] H H') (hr : H' r = some o) (ha : H' a = none) : H a = none := by
  cases e : H a with
  | none => rfl
  | some o' =>
    by_cases h : a = r
    · rw [h, hr] at ha
      cases ha
    · rw [k a o' e (fun z => h (List.mem_singleton.mp z))] at ha
      cases ha
/-- what a text's first token is, or its fault -/
def sp_now (K : PySem.W.Frag) : Sp := fun vs H Q E => ∃ (r dx tx : Addr) (t : List Nat) (ts : Vatsld.Toks), vs = [.ref r] ∧ Rds K H r dx tx t ts ∧ t.length ≤ 100000 ∧
  (∀ p k, ts = [(p, .bad k)] → FE K [r] E k p H) ∧ ∀ i x tok bs H', ts = toksOf t i (.ok (tok, bs)) → Keep [r] H H' → Seen K H' r dx tx t i x tok bs → Q (.ref x) H'
def sp_is_now (K : PySem.W.Frag) : Sp := fun vs H Q E => ∃ (r dx tx : Addr) (t : List Nat) (ts : Vatsld.Toks) (m : Tp.Mk), vs = [.ref r, .str (Str.ofString m.str)] ∧ Rds K H r dx tx t ts ∧ t.length ≤ 100000 ∧
  (∀ p k, isM m ts = .error (k, p) → FE K [r] E k p H) ∧ ∀ b H', isM m ts = .ok b → Keep [r] H H' → Rds K H' r dx tx t ts → Q (.bl b) H'
def sp_take (K : PySem.W.Frag) : Sp := fun vs H Q E => ∃ (r dx tx : Addr) (t : List Nat) (ts : Vatsld.Toks) (m : Tp.Mk), vs = [.ref r, .str (Str.ofString m.str)] ∧ m ≠ .over ∧ Rds K H r dx tx t ts ∧ t.length ≤ 100000 ∧
  (∀ p k, takeM m ts = .error (k, p) → FE K [r] E k p H) ∧ ∀ x p tok bs rest H', takeM m ts = .ok ((p, tok), rest) → Keep [r] H H' → Rds K H' r dx tx t rest → TokAt K H' x m bs p → BsOk tok bs → Q (.ref x) H'
end
abbrev N_Reader_now : List Str := ["self"]
theorem sc_Reader_now : FnScope N_Reader_now ["self"] (defScope s_Reader_now) := C8.fnScope_by (by decide +kernel)
abbrev N_Reader_is_now : List Str := ["self", "mark"]
theorem sc_Reader_is_now : FnScope N_Reader_is_now ["self", "mark"] (defScope s_Reader_is_now) := C8.fnScope_by (by decide +kernel)
abbrev N_Reader_take : List Str := ["self", "mark", "token"]
theorem sc_Reader_take : FnScope N_Reader_take ["self", "mark"] (defScope s_Reader_take) := C8.fnScope_by (by decide +kernel)
section
variable {P : Program} {w : World} {K : PySem.W.Frag} {mg : Str → Option Value} {base : Heap}
theorem is_of {m : Tp.Mk} {t : List Nat} {i : Nat} {tok : Vatsld.Tok} {bs : List Nat} (h : BsOk tok bs) : isM m (toksOf t i (.ok (tok, bs))) = .ok (decide (markOf tok = m)) := by
  cases tok with
  | bad k => exact h.elim
  | _ => rfl
theorem over_of {tok : Vatsld.Tok} {bs : List Nat} (h : BsOk tok bs) : markOf tok = .over ↔ tok = .over := by
  cases tok with
  | bad k => exact h.elim
  | word w => exact ⟨fun z => absurd z (mark_not w).2.2.2, fun z => by cases z⟩
  | num n => exact ⟨fun z => (by cases z), fun z => by cases z⟩
  | sign c =>
    refine ⟨fun z => ?_, fun z => by cases z⟩
    unfold markOf at z
    dsimp only at z
    split at z <;> cases z
  | over => exact ⟨fun _ => rfl, fun _ => rfl⟩
theorem take_of {m : Tp.Mk} {t : List Nat} {i : Nat} {tok : Vatsld.Tok} {bs : List Nat} (h : BsOk tok bs) (hm : m ≠ .over) : takeM m (toksOf t i (.ok (tok, bs))) =
    if markOf tok = m then .ok ((i, tok), toksAt t (i + bs.length)) else if markOf tok = .over then .error (4, i) else .error (3, i) := by
  cases tok with
  | bad k => exact h.elim
  | over =>
    show (if m = .over then _ else _) = _
    rw [if_neg hm, if_neg (c := markOf .over = m) (fun z : Tp.Mk.over = m => hm z.symm)] <;> rfl
  | word w =>
    show (if markOf (.word w) = m then _ else _) = _
    rw [if_neg (c := markOf (.word w) = .over) (fun z => by rw [over_of h] at z; cases z)] <;> rfl
  | num n =>
    show (if markOf (.num n) = m then _ else _) = _
    rw [if_neg (c := markOf (.num n) = .over) (fun z => by rw [over_of h] at z; cases z)] <;> rfl
  | sign c =>
    show (if markOf (.sign c) = m then _ else _) = _
    rw [if_neg (c := markOf (.sign c) = .over) (fun z => by rw [over_of h] at z; cases z)] <;> rfl
theorem met_now (T : Tx K mg) : Met P w K mg base 5 "Reader" "now" (sp_now K) := by
  have c_token_at := cal_token_at (P := P) (w := w) (base := base) T
  have c_Reader_begin := met_begin (P := P) (w := w) (base := base) T
  obtain ⟨fd, F⟩ := T.def_ 20 (d := d_Reader_now) rfl
  refine met_of F (c_Reader T) (m_Reader_now T) sc_Reader_now (fun _ _ _ _ _ _ us hl => match us, hl with | [_], _ => rfl) (fun vs H Q E h => ?_) fun cdv A outer s H vs Q E hr h => ⟨_, (pss_cons (ps_if (pt_cmpR op_isN (pe_fld (pv 0) rfl) pe_non (nomark _)) (pss_one (ps_fld (pv 0) (pe_c c_token_at hr (by decide) (passes_call (takes_of rfl rfl rfl rfl) fun _ _ _ _ z => z) (pa_cons (pe_fld (pv 0) rfl) (pa_cons (pe_mt0 c_Reader_begin hr (by decide) passL (pv 0)) pa_nil))) rfl)) pss_nil)
    (pss_one (ps_ret (pe_fld (pv 0) rfl)))), ?_⟩
  · obtain ⟨r, dx, tx, t, ts, rfl, _⟩ := h
    rfl
  obtain ⟨r, dx, tx, t, ts, rfl, hR, hlen, hf, q⟩ := h
  rcases hR with ⟨i, h1, rfl⟩ | ⟨i, x, tok, bs, hs, rfl⟩
  · have hr1 := h1.hr
    walk_at "go"
    refine ⟨rfl, ?_⟩
    walk_at "go"
    refine ⟨r, dx, tx, t, i, .non, rfl, h1, fun j H1 k1 h2 htk hg => ?_⟩
    have lx := toksAt_lex h2.hi hg
    rw [htk] at lx
    refine ⟨tx, t, j, rfl, SqL.of h2.ht, hlen, h2.hi, fun c hc => ⟨rfl, hg c hc⟩, fun _ => rfl, fun k hk => FE.of (hf j k (by rw [lx, hk]; rfl)) k1 (fun _ z => nomatch z), fun tok bs x H2 hx e2 ht2 => ?_⟩
    have h3 := h2.same e2
    have hr3 := h3.hr
    walk_at "v"
    walk_at "s"
    walk_at "go"
    exact q j x tok bs _ (by rw [lx, hx]) (Keep.trans k1 (Keep.trans (Keep.of e2) (Keep.upd Keep.refl (.inl (List.mem_singleton.mpr rfl))))) ⟨h3.put h3.hi, ht2.put h3, hx⟩
  · have hr1 := hs.1.hr
    walk_at "go"
    refine ⟨rfl, ?_⟩
    walk_at "go"
    exact q i x tok bs H rfl Keep.refl hs
theorem met_is_now (T : Tx K mg) : Met P w K mg base 6 "Reader" "is_now" (sp_is_now K) := by
  have c_Reader_now := met_now (P := P) (w := w) (base := base) T
  obtain ⟨fd, F⟩ := T.def_ 21 (d := d_Reader_is_now) rfl
  refine met_of F (c_Reader T) (m_Reader_is_now T) sc_Reader_is_now (fun _ _ _ _ _ _ us hl => match us, hl with | [_, _], _ => rfl) (fun vs H Q E h => ?_) fun cdv A outer s H vs Q E hr h => ⟨_, (pss_one (ps_ret (pe_cmpR op_eq (pe_fld (pe_mt0 c_Reader_now hr (by decide) (passes_call (takes_of rfl rfl rfl rfl) fun _ _ _ _ z => z) (pv 0)) rfl) (pv 1) (nomark _)))), ?_⟩
  · obtain ⟨r, dx, tx, t, ts, m, rfl, _⟩ := h
    rfl
  obtain ⟨r, dx, tx, t, ts, m, rfl, hR, hlen, hf, q⟩ := h
  have hr1 : ∃ i v, RdX K H r dx tx t i v := by
    rcases hR with ⟨i, h1, rfl⟩ | ⟨i, x, tok, bs, hs, rfl⟩
    · exact ⟨_, _, h1⟩
    · exact ⟨_, _, hs.1⟩
  obtain ⟨i0, v0, h0⟩ := hr1
  have hr0 := h0.hr
  walk_at "go"
  refine ⟨r, dx, tx, t, ts, rfl, hR, hlen, fun p k hk => hf p k (by rw [hk]; rfl), fun i x tok bs H1 hts k1 hs => ?_⟩
  obtain ⟨dx', b, htok, hb⟩ := hs.2.1
  have ok := lex_ok hs.2.2 hs.1.hi
  walk_at "go"
  refine ⟨rfl, ?_⟩
  rw [dec_mk]
  exact q _ H1 (by rw [hts, is_of ok.1]) k1 (.inr ⟨i, x, tok, bs, hs, hts⟩)
theorem met_take (T : Tx K mg) : Met P w K mg base 6 "Reader" "take" (sp_take K) := by
  have c_Reader_now := met_now (P := P) (w := w) (base := base) T
  have c_Token_fault := met_Token_fault (P := P) (w := w) (base := base) T
  obtain ⟨fd, F⟩ := T.def_ 22 (d := d_Reader_take) rfl
  refine met_of F (c_Reader T) (m_Reader_take T) sc_Reader_take (fun _ _ _ _ _ _ us hl => match us, hl with | [_, _], _ => rfl) (fun vs H Q E h => ?_) fun cdv A outer s H vs Q E hr h => ⟨_, (pss_cons (ps_set (i := 2) sc_Reader_take.nd rfl (Or.inl rfl) (pe_mt0 c_Reader_now hr (by decide) (passes_call (takes_of rfl rfl rfl rfl) fun _ _ _ _ z => z) (pv 0)))
    (pss_cons (ps_if (pt_cmpR op_ne (pe_fld (pv 2) rfl) (pv 1) (nomark _)) (pss_one (ps_raise rfl (takes_of rfl rfl rfl rfl) (pmk_val (o_Fault T) rfl (pe_mt c_Token_fault hr (by decide) passL (pv 2) (pa_cons (pe_ifExp (pt_cmpR op_eq (pe_fld (pv 2) rfl) (pe_gs (s_END T)) (nomark _)) (pe_gi (i_TOO_SHORT T)) (pe_gi (i_NOT_HERE T))) pa_nil))))) pss_nil)
    (pss_cons (ps_fld (pv 0) pe_non rfl)
    (pss_cons (ps_fld (pv 0) (pe_op op_add (pe_fld (pv 2) rfl) (pe_callB call_len_seq (by rfl) (f_len T) (by decide +kernel) (pa_cons (pe_fld (pv 2) rfl) pa_nil))) rfl)
    (pss_one (ps_ret (pv 2))))))), ?_⟩
  · obtain ⟨r, dx, tx, t, ts, m, rfl, _⟩ := h
    rfl
  obtain ⟨r, dx, tx, t, ts, m, rfl, hm, hR, hlen, hf, q⟩ := h
  have hr1 : ∃ i v, RdX K H r dx tx t i v := by
    rcases hR with ⟨i, h1, rfl⟩ | ⟨i, x, tok, bs, hs, rfl⟩
    · exact ⟨_, _, h1⟩
    · exact ⟨_, _, hs.1⟩
  obtain ⟨i0, v0, h0⟩ := hr1
  have hr0 := h0.hr
  walk_at "go"
  refine ⟨r, dx, tx, t, ts, rfl, hR, hlen, fun p k hk => hf p k (by rw [hk]; rfl), fun i x tok bs H1 hts k1 hs => ?_⟩
  have ok := lex_ok hs.2.2 hs.1.hi
  have hh1 := hs.1.hr
  have htA := hs.2.1
  obtain ⟨dx', b, htok, hb⟩ := hs.2.1
  have htk := take_of (t := t) (i := i) ok.1 hm
  rw [← hts] at htk
  dsimp only [gName]
  refine tifs (!decide (markOf tok = m)) (fun R q => ?_) (fun hb => ?_) (fun hb => ?_)
  · walk_at "go"
    refine ⟨rfl, ?_⟩
    walk_at "go"
    rw [dec_mk]
    exact q
  · have hne : ¬ markOf tok = m := by simpa using hb
    rw [if_neg hne] at htk
    walk_at "go"
    refine ⟨rfl, ?_⟩
    have ed : decide (V.str (Str.ofString (markOf tok).str) = V.str (Str.ofString "the end")) = decide (markOf tok = .over) := dec_mk (markOf tok) .over
    walk_at "go"
    rw [ed]
    have fin : ∀ (k : Nat) (a d : Addr) (H2 : Hp), takeM m ts = .error (k, i) → Same H1 H2 → H1 a = none → H2 a = some (exo a (He.ga K "Fault") (some d)) → H2 d = some (exd d [("place", .int i), ("kind", .int k)]) → H1 d = none →
        E (.ref (He.ga K "Fault")) (some d) (upd (delH H2 a) d (.xd [("place", .int i), ("kind", .int k)])) := fun k a d H2 ht e2 ha e1 e3 hd => by
      refine hf i k ht d _ (fun b o hbo hbr => ?_) upd_same
      have hb1 := k1 b o hbo hbr
      have hba : b ≠ a := ne_of_none hb1 ha
      have hbd : b ≠ d := ne_of_none hb1 hd
      rw [upd_ne hbd, delH_ne hba]
      exact e2 b o hb1
    by_cases ho : markOf tok = .over
    · rw [decide_eq_true ho]
      rw [if_pos ho] at htk
      walk_at "go"
      refine ⟨x, 4, i, _, bs, rfl, htA, fun a d H2 e2 ha e1 e3 hd => ⟨a, d, _, rfl, e1, e3, fr0_none (Keep.back k1 hh1 ha), fin 4 a d H2 htk e2 ha e1 e3 hd⟩⟩
    · rw [decide_eq_false ho]
      rw [if_neg ho] at htk
      walk_at "go"
      refine ⟨x, 3, i, _, bs, rfl, htA, fun a d H2 e2 ha e1 e3 hd => ⟨a, d, _, rfl, e1, e3, fr0_none (Keep.back k1 hh1 ha), fin 3 a d H2 htk e2 ha e1 e3 hd⟩⟩
  · have heq : markOf tok = m := by simpa using hb
    rw [if_pos heq] at htk
    walk_at "go"
    walk_at "s"
    have h2 : RdX K (upd H1 r (.ins (He.ga K "Reader") dx (putF "seen" .non [("text", .ref tx), ("at", .int i), ("seen", .ref x)]))) r dx tx t i .non := hs.1.put hs.1.hi
    have hA2 : TokAt K (upd H1 r (.ins (He.ga K "Reader") dx (putF "seen" .non [("text", .ref tx), ("at", .int i), ("seen", .ref x)]))) x (markOf tok) bs i := htA.put hs.1
    have k2 : Keep [r] H (upd H1 r (.ins (He.ga K "Reader") dx (putF "seen" .non [("text", .ref tx), ("at", .int i), ("seen", .ref x)]))) := Keep.upd k1 (.inl (List.mem_singleton.mpr rfl))
    generalize hH2 : upd H1 r _ = H2
    rw [hH2] at h2 hA2 k2
    have hh2 := h2.hr
    obtain ⟨dx2, b2, htok2, hb2⟩ := hA2
    walk_at "go"
    refine ⟨_, _, rfl, .inr (.inl (.inl hb2)), ?_⟩
    walk_at "go"
    walk_at "s"
    walk_at "go"
    refine q x i tok bs _ _ htk (Keep.upd k2 (.inl (List.mem_singleton.mpr rfl))) (.inl ⟨i + bs.length, ?_, rfl⟩) ?_ ok.1
    · have z := h2.put (v' := .non) (j := i + bs.length) ok.2.1
      rw [vN_length]
      exact z
    · have z : TokAt K H2 x (markOf tok) bs i := ⟨dx2, b2, htok2, hb2⟩
      rw [heq] at z
      exact z.put h2
end
end
section
local macro_rules | `(tactic| walk_at "v") => `(tactic| refine ⟨_, rfl, ?_⟩)
local macro_rules | `(tactic| walk_at "ii") => `(tactic| refine ⟨_, _, rfl, rfl, ?_⟩)
local macro_rules | `(tactic| walk_at "no") => `(tactic| first | exact n_Plan_groups ‹_› | exact n_Plan_tests ‹_› | exact n_Group_name ‹_› | exact n_Group_cost ‹_› | exact n_Test_name ‹_› | exact n_Test_cost ‹_› | exact n_Test_chance ‹_› | exact n_Test_group ‹_› | exact n_Test_behind ‹_› | exact n_Token_mark ‹_› | exact n_Token_some ‹_› | exact n_Token_place ‹_› | exact n_Reader_text ‹_› | exact n_Reader_at ‹_› | exact n_Reader_seen ‹_› | exact n_Search_plan ‹_› | exact n_Search_known ‹_› | exact n_Desk_plan ‹_›)
local macro_rules | `(tactic| walk_at "cl") => `(tactic| first | exact c_Plan ‹_› | exact c_Test ‹_› | exact c_Group ‹_› | exact c_Token ‹_› | exact c_Reader ‹_› | exact c_Search ‹_› | exact c_Desk ‹_›)
local macro_rules | `(tactic| walk_at "f") => `(tactic| (refine ⟨_, _, _, _, _, rfl, by first | assumption | exact upd_same, ?cl, ?no, rfl, ?_⟩; (case cl => walk_at "cl"); (case no => walk_at "no")))
local macro_rules | `(tactic| walk_at "m") => `(tactic| refine ⟨_, _, _, rfl, by first | assumption | exact upd_same, rfl, ?_⟩)
local macro_rules | `(tactic| walk_at "go") => `(tactic| repeat (first | walk_at "v" | walk_at "ii" | walk_at "f" | walk_at "m"))
local macro_rules | `(tactic| walk_at "s") => `(tactic| (refine ⟨_, _, _, _, rfl, by first | assumption | exact upd_same, ?cl, ?no, of_decide_eq_true rfl, ?_⟩; (case cl => walk_at "cl"); (case no => walk_at "no")))
section
variable {K : PySem.W.Frag} {H H' : Hp}
/-- a thing with a name -/
def NamedAt (K : PySem.W.Frag) (H : Hp) (x : Addr) (nm : List Nat) : Prop := ∃ C dx fs b, H x = some (.ins C dx fs) ∧ Cls K C ∧ NoAttr K C "name" ∧ fs.lookup ("name" : Str) = some (.ref b) ∧ H b = some (.tup (vN nm))
theorem NamedAt.same {x : Addr} {nm : List Nat} (e : Same H H') (h : NamedAt K H x nm) : NamedAt K H' x nm := by
  obtain ⟨C, dx, fs, b, h1, h2, h3, h4, h5⟩ := h
  exact ⟨C, dx, fs, b, e _ _ h1, h2, h3, h4, e _ _ h5⟩
theorem pair_map {α β γ : Type} {F : α → γ → Prop} {G : α → β → Prop} {f : β → γ} (h : ∀ a b, G a b → F a (f b)) : ∀ {l : List α} {m : List β}, Paired G l m → Paired F l (m.map f)
  | _, _, .nil => .nil
  | _, _, .cons r t => .cons (h _ _ r) (pair_map h t)
theorem pair_two {α β : Type} {F : α → β → Prop} : ∀ {l : List α} {m : List β}, Paired F l m → ∀ {i : Nat} {a : α}, l[i]? = some a → ∃ b, m[i]? = some b ∧ F a b
  | _, _, .nil, _, _, h => by cases h
  | _, _, .cons r t, 0, _, h => by
    cases h
    exact ⟨_, rfl, r⟩
  | _, _, .cons r t, i + 1, _, h => pair_two t (i := i) h
theorem GroupAt.named (T : Tx K mg) {x : Addr} {g : Vatsld.Group} (h : GroupAt K H x g) : NamedAt K H x g.name := by
  obtain ⟨dx, nm, h1, h2⟩ := h
  exact ⟨_, dx, _, nm, h1, c_Group T, n_Group_name T, rfl, h2⟩
theorem TestAt.named (T : Tx K mg) {x : Addr} {g : Vatsld.Job} (h : TestAt K H x g) : NamedAt K H x g.name := by
  obtain ⟨dx, nm, b, h1, h2, h3⟩ := h
  exact ⟨_, dx, _, nm, h1, c_Test T, n_Test_name T, rfl, h2⟩
theorem PlanL.gn (T : Tx K mg) {a g t : Addr} {gs ts : List Addr} {p : Vatsld.Plan} (h : PlanL K H a g t gs ts p) : Paired (NamedAt K H) gs (gNames p) := pair_map (fun _ _ z => z.named T) h.pg
theorem PlanL.tn (T : Tx K mg) {a g t : Addr} {gs ts : List Addr} {p : Vatsld.Plan} (h : PlanL K H a g t gs ts p) : Paired (NamedAt K H) ts (jNames p) := pair_map (fun _ _ z => z.at_.named T) h.pt
def sp_known (K : PySem.W.Frag) : Sp := fun vs H Q E => ∃ (l x : Addr) (xs : List Addr) (names : List (List Nat)) (m : Tp.Mk) (bs : List Nat) (p : Nat), vs = [.ref l, .ref x] ∧ H l = some (.lst (xs.map V.ref)) ∧ Paired (NamedAt K H) xs names ∧ TokAt K H x m bs p ∧ xs.length ≤ 1000 ∧
  (idxOf names bs = none → FE K [] E 7 p H) ∧ ∀ i H', idxOf names bs = some i → Same H H' → Q (.int (i : Nat)) H'
def sp_take_right (K : PySem.W.Frag) : Sp := fun vs H Q E => ∃ (r dx tx : Addr) (t : List Nat) (ts : Vatsld.Toks) (lo hi : Nat), vs = [.ref r, .int lo, .int hi] ∧ Rds K H r dx tx t ts ∧ t.length ≤ 100000 ∧
  (∀ p k, rRight lo hi ts = .error (k, p) → FE K [r] E k p H) ∧ ∀ n rest H', rRight lo hi ts = .ok (n, rest) → Keep [r] H H' → Rds K H' r dx tx t rest → Q (.int (n : Nat)) H'
def sp_new_name (K : PySem.W.Frag) : Sp := fun vs H Q E => ∃ (r dx tx : Addr) (t : List Nat) (ts : Vatsld.Toks) (l : Addr) (xs : List Addr) (names : List (List Nat)), vs = [.ref r, .ref l] ∧ Rds K H r dx tx t ts ∧ t.length ≤ 100000 ∧ H l = some (.lst (xs.map V.ref)) ∧ Paired (NamedAt K H) xs names ∧ xs.length ≤ 1000 ∧
  (∀ p k, rNew names ts = .error (k, p) → FE K [r] E k p H) ∧ ∀ w rest b H', rNew names ts = .ok (w, rest) → Keep [r] H H' → Rds K H' r dx tx t rest → H' b = some (.tup (vN w)) → Q (.ref b) H'
/-- what is no reader stays -/
theorem kept {r dx tx : Addr} {t : List Nat} {ts : Vatsld.Toks} {b : Addr} {o : HO} (k : Keep [r] H H') (h : Rds K H r dx tx t ts) (hb : H b = some o) (ne : ∀ v i, o ≠ .ins (He.ga K "Reader") dx [("text", .ref tx), ("at", .int i), ("seen", v)]) : H' b = some o := by
  have hr : ∃ i v, RdX K H r dx tx t i v := by
    rcases h with ⟨i, h1, rfl⟩ | ⟨i, x, tok, bs, hs, rfl⟩
    · exact ⟨_, _, h1⟩
    · exact ⟨_, _, hs.1⟩
  obtain ⟨i, v, h0⟩ := hr
  exact k b o hb fun z => ne_of hb h0.hr (ne _ _) (List.mem_singleton.mp z)
theorem GroupAt.kept {r dx tx : Addr} {t : List Nat} {ts : Vatsld.Toks} {x : Addr} {g : Vatsld.Group} (k : Keep [r] H H') (h : Rds K H r dx tx t ts) (hx : GroupAt K H x g) : GroupAt K H' x g := by
  obtain ⟨d, nm, h1, h2⟩ := hx
  refine ⟨d, nm, Tp.kept k h h1 fun v i z => ?_, Tp.kept k h h2 fun v i z => by cases z⟩
  injection z with z1 z2 z3
  injection z3 with z3 z4
  injection z3 with z5 z6
  exact absurd z5 (by decide)
theorem TestOff.kept {r dx tx g tl : Addr} {t : List Nat} {ts : Vatsld.Toks} {x : Addr} {j : Vatsld.Job} (k : Keep [r] H H') (h : Rds K H r dx tx t ts) (hx : TestOff K H g tl x j) : TestOff K H' g tl x j := by
  obtain ⟨d, nm, b, h1, h2, h3, h4⟩ := hx
  refine ⟨d, nm, b, Tp.kept k h h1 fun v i z => ?_, Tp.kept k h h2 fun v i z => (by cases z), Tp.kept k h h3 fun v i z => (by cases z), h4⟩
  injection z with z1 z2 z3
  injection z3 with z3 z4
  injection z3 with z5 z6
  exact absurd z5 (by decide)
theorem PlanL.kept {r dx tx : Addr} {t : List Nat} {ts : Vatsld.Toks} {a g tl : Addr} {gs js : List Addr} {p : Vatsld.Plan} (k : Keep [r] H H') (h : Rds K H r dx tx t ts) (hp : PlanL K H a g tl gs js p) : PlanL K H' a g tl gs js p := by
  obtain ⟨⟨d, h1⟩, h2, h3, h4, h5, h6⟩ := hp
  refine ⟨⟨d, Tp.kept k h h1 fun v i z => ?_⟩, Tp.kept k h h2 fun v i z => (by cases z), Tp.kept k h h3 fun v i z => (by cases z), Paired.mapP h4 fun _ _ q => q.kept k h, Paired.mapP h5 fun _ _ q => q.kept k h, h6⟩
  injection z with z1 z2 z3
  injection z3 with z3 z4
  injection z3 with z5 z6
  exact absurd z5 (by decide)
end
theorem NamedAt.kept {K : PySem.W.Frag} {H H' : Hp} {r dx tx : Addr} {t : List Nat} {ts : Vatsld.Toks} {x : Addr} {nm : List Nat} (k : Keep [r] H H') (h : Rds K H r dx tx t ts) (hx : NamedAt K H x nm) : NamedAt K H' x nm := by
  obtain ⟨C, d, fs, b, h1, h2, h3, h4, h5⟩ := hx
  refine ⟨C, d, fs, b, Tp.kept k h h1 fun v i z => ?_, h2, h3, h4, Tp.kept k h h5 fun v i z => by cases z⟩
  injection z with z1 z2 z3
  subst z3
  have h4' : (none : Option V) = some (.ref b) := h4
  cases h4'
theorem FE.val {K : PySem.W.Frag} {S : List Addr} {E : XK} {k p : Nat} {H H1 H2 : Hp} {a d : Addr} (h : FE K S E k p H) (k1 : Keep S H H1) (e2 : Same H1 H2) (ha : H1 a = none) (hd : H1 d = none) :
    E (.ref (He.ga K "Fault")) (some d) (upd (delH H2 a) d (.xd [("place", .int p), ("kind", .int k)])) := by
  refine h d _ (fun b o hbo hbr => ?_) upd_same
  have hb1 := k1 b o hbo hbr
  rw [upd_ne (ne_of_none hb1 hd), delH_ne (ne_of_none hb1 ha)]
  exact e2 b o hb1
abbrev N_known : List Str := ["things", "token", "some", "at", "own"]
theorem sc_known : FnScope N_known ["things", "token"] (defScope s_known) := C8.fnScope_by (by decide +kernel)
abbrev N_take_right : List Str := ["reader", "low", "high", "token"]
theorem sc_take_right : FnScope N_take_right ["reader", "low", "high"] (defScope s_take_right) := C8.fnScope_by (by decide +kernel)
abbrev N_new_name : List Str := ["reader", "things", "token", "own"]
theorem sc_new_name : FnScope N_new_name ["reader", "things"] (defScope s_new_name) := C8.fnScope_by (by decide +kernel)
section
variable {P : Program} {w : World} {K : PySem.W.Frag} {mg : Str → Option Value} {base : Heap}
theorem cal_known (T : Tx K mg) : Cal P w K mg base 4 "known" (sp_known K) := by
  have c_Token_fault := met_Token_fault (P := P) (w := w) (base := base) T
  obtain ⟨fd, F⟩ := T.def_ 30 (d := d_known) rfl
  refine cal_of F (g_known T) sc_known (fun _ _ _ _ _ _ us hl => match us, hl with | [_, _], _ => rfl) (fun vs H Q E h => ?_) fun cdv A outer s H vs Q E hr h => ⟨_, (pss_cons (ps_setLc (i := 2) (own := [("at", 3), ("own", 4)]) rfl sc_known.nd rfl rfl (sw_true rfl rfl rfl (by decide +kernel)) (pi_enum (by rfl) (f_enumerate T) (pa_cons (pv 0) pa_nil)) (blkOk_by (own := [("at", 3), ("own", 4)]) (N := N_known) (sc := defScope s_known) (by decide +kernel)) (fun _ _ _ _ _ => by exact (pg_tupK (K := K) (n := 2) rfl rfl (pgs_cons (pg_name (i := 3) sc_known.nd rfl (Or.inl rfl)) (pgs_cons (pg_name (i := 4) sc_known.nd rfl (Or.inl rfl)) pgs_nil)))) (fun _ _ _ _ _ => by exact (pts_one (pt_cmpR (op_eqDK (K := K) rfl hr.units) (pe_fldK (K := K) rfl (pv 4) rfl) (pe_fldK (K := K) rfl (pv 1) rfl) (nomark _)))) (fun _ _ _ _ _ => by exact (pv 3)))
    (pss_cons (ps_if (pt_cmpR (op_eqD hr.units) (pv 2) (pe_lst pa_nil) (nomark _)) (pss_one (ps_raise rfl (takes_of rfl rfl rfl rfl) (pmk_val (o_Fault T) rfl (pe_mt c_Token_fault hr (by decide) passL (pv 1) (pa_cons (pe_gi (i_UNKNOWN T)) pa_nil))))) pss_nil)
    (pss_one (ps_ret (pe_ix ix_list (pv 2) pe_int (fun _ _ => rfl)))))), ?_⟩
  · obtain ⟨l, x, xs, names, m, bs, p, rfl, _⟩ := h
    rfl
  obtain ⟨l, x, xs, names, m, bs, p, rfl, hl, hn, hx, hz, hf, q⟩ := h
  have hnl := pair_len hn
  obtain ⟨dx', b, htok, hb⟩ := id hx
  walk_at "go"
  refine ⟨l, _, rfl, SqL.of hl, fun D hD => lcS_enum (fun k => vN (idxs names bs k)) hD rfl (SqL.of hl) ?_ ?_⟩
  · intro i y U H1 hy a hU
    obtain ⟨ad, had, rfl⟩ := of_vR hy
    obtain ⟨nm, hnm, C, dx, fs, b2, h1, h2, h3, h4, h5⟩ := pair_two hn had
    have e := a.1
    have h1' := e _ _ h1
    have h5' := e _ _ h5
    have htok' := e _ _ htok
    have hb' := e _ _ hb
    refine ⟨U, _, rfl, .inl (.inl hU), rfl, ?_⟩
    refine ⟨_, _, rfl, _, _, rfl, rfl, rfl, ?_⟩
    refine ⟨_, rfl, _, _, _, _, _, rfl, h1', h2, h3, h4, ?_⟩
    walk_at "go"
    refine ⟨_, _, .tup (.inl (.inl h5')) (dp_N _), .tup (.inl (.inl hb')) (dp_N _), shT_N _, shT_N _, ?_⟩
    rw [eqT_N]
    walk_at "go"
    by_cases heq : nm = bs
    · subst heq
      rw [decide_eq_true rfl]
      walk_at "go"
      refine AddTo.of hD a (Same.refl _) (by rw [idxs_yes hnm, vN_append] <;> rfl) ?_
      have hi : i < xs.length := (List.getElem?_eq_some_iff.mp had).1
      rw [vN_length, sizeLine_eq]
      have := List.length_filter_le (fun j => decide (names[j]? = some nm)) (List.range i)
      rw [List.length_range] at this
      unfold idxs
      omega
    · rw [decide_eq_false heq]
      show Acc H D (vN (idxs names bs (i + 1))) H1
      rw [idxs_no hnm heq]
      exact a
  · intro H1 a
    rw [List.length_map, hnl] at a
    have hD1 := a.2
    have hx1 := TokAt.same a.1 hx
    have htok' := a.1 _ _ htok
    dsimp only [gName]
    refine tifsS (decide (idxs names bs names.length = [])) (fun R q => ?_) (fun H2 e2 hb => ?_) (fun H2 e2 hb => ?_)
    · walk_at "go"
      refine ⟨Nat.zero_le _, fun p2 hn2 => ?_⟩
      generalize hH2 : upd H1 p2 _ = H2
      obtain ⟨e2, hp2⟩ := new_at hn2 hH2
      refine ⟨_, _, .lst (SqL.of (e2 _ _ hD1)) (dp_N _), .lst (SqL.of hp2) (dp_N []), shL_N _, shL_N _, ?_⟩
      rw [eqL_N]
      walk_at "go"
      exact q H2 e2
    · have hh := e2 _ _ htok'
      walk_at "go"
      have hx2 := TokAt.same e2 hx1
      have k2 := Keep.of (S := []) (Same.trans a.1 e2)
      refine ⟨x, 7, p, m, bs, rfl, hx2, fun a' d H3 e3 ha e1 e4 hd => ⟨a', d, _, rfl, e1, e4, fr0_none (Same.free (Same.trans a.1 e2) ha), FE.val (hf (idxOf_none (of_decide_eq_true hb))) k2 e3 ha hd⟩⟩
    · have hb := of_decide_eq_false hb
      cases hi : idxs names bs names.length with
      | nil => exact absurd hi hb
      | cons i r =>
        walk_at "go"
        refine ⟨_, _, _, _, rfl, rfl, SqL.of (e2 _ _ hD1), atI_nat (j := 0) (vN_get (n := i) (by rw [hi]; rfl)), ?_⟩
        exact q i H2 (idxOf_some hi) (Same.trans a.1 e2)
theorem Rds.at_ {H : Hp} {r dx tx : Addr} {t : List Nat} {ts : Vatsld.Toks} (h : Rds K H r dx tx t ts) : ∃ i v, RdX K H r dx tx t i v := by
  rcases h with ⟨i, h1, rfl⟩ | ⟨i, x, tok, bs, hs, rfl⟩
  · exact ⟨_, _, h1⟩
  · exact ⟨_, _, hs.1⟩
theorem cal_take_right (T : Tx K mg) : Cal P w K mg base 7 "take_right" (sp_take_right K) := by
  have c_Token_fault := met_Token_fault (P := P) (w := w) (base := base) T
  have c_Reader_take := met_take (P := P) (w := w) (base := base) T
  have c_number_of := cal_number_of (P := P) (w := w) (base := base) T
  obtain ⟨fd, F⟩ := T.def_ 33 (d := d_take_right) rfl
  refine cal_of F (g_take_right T) sc_take_right (fun _ _ _ _ _ _ us hl => match us, hl with | [_, _, _], _ => rfl) (fun vs H Q E h => ?_) fun cdv A outer s H vs Q E hr h => ⟨_, (pss_cons (ps_set (i := 3) sc_take_right.nd rfl (Or.inl rfl) (pe_mt c_Reader_take hr (by decide) (passes_call (takes_of rfl rfl rfl rfl) fun _ _ _ _ z => z) (pv 0) (pa_cons (pe_gs (s_NUMBER T)) pa_nil)))
    (pss_cons (ps_if (pt_not (pt_chain op_le op_le (pv 1) (pe_c c_number_of hr (by decide) passL (pa_cons (pe_fld (pv 3) rfl) pa_nil)) (pv 2))) (pss_one (ps_raise rfl (takes_of rfl rfl rfl rfl) (pmk_val (o_Fault T) rfl (pe_mt c_Token_fault hr (by decide) passL (pv 3) (pa_cons (pe_gi (i_NOT_RIGHT T)) pa_nil))))) pss_nil)
    (pss_one (ps_ret (pe_c c_number_of hr (by decide) passL (pa_cons (pe_fld (pv 3) rfl) pa_nil)))))), ?_⟩
  · obtain ⟨r, dx, tx, t, ts, lo, hi, rfl, _⟩ := h
    rfl
  obtain ⟨r, dx, tx, t, ts, lo, hi, rfl, hR, hlen, hf, q⟩ := h
  obtain ⟨i0, v0, h0⟩ := hR.at_
  have hr0 := h0.hr
  obtain ⟨res, hres⟩ : ∃ res, rRight lo hi ts = res := ⟨_, rfl⟩
  rw [hres] at hf q
  unfold rRight at hres
  walk_at "go"
  refine ⟨r, dx, tx, t, ts, .num, rfl, by decide, hR, hlen, fun p k hk => hf p k (by rw [← hres, hk] <;> rfl), fun x p tok bs rest H1 ht k1 hR1 hA hB => ?_⟩
  rw [ht] at hres
  obtain ⟨n, hn⟩ := take_num ht hR.sgn
  dsimp only at hn
  subst hn
  dsimp only [Except.bind] at hres
  obtain ⟨dx', b, htok, hb⟩ := id hA
  dsimp only [gName]
  refine tifs (!decide (lo ≤ n ∧ n ≤ hi)) (fun R q => ?_) (fun hb => ?_) (fun hb => ?_)
  · walk_at "go"
    refine ⟨_, _, rfl, .inl (.inl hb), hB.2, ?_⟩
    walk_at "go"
    rw [← hB.1]
    by_cases hlo : lo ≤ n
    · rw [decide_eq_true (show (lo : Int) ≤ n by omega)]
      walk_at "go"
      rw [show decide ((n : Int) ≤ hi) = decide (lo ≤ n ∧ n ≤ hi) from decide_eq_decide.mpr (by omega)]
      exact q
    · rw [decide_eq_false (show ¬ (lo : Int) ≤ n by omega)]
      walk_at "go"
      rw [decide_eq_false (fun z => hlo z.1)] at q
      exact q
  · have hno : ¬ (lo ≤ n ∧ n ≤ hi) := of_decide_eq_false (by rw [← Bool.not_eq_true']; exact hb)
    rw [if_neg hno] at hres
    walk_at "go"
    refine ⟨x, 8, p, _, bs, rfl, hA, fun a' d H3 e3 ha e1 e4 hd => ⟨a', d, _, rfl, e1, e4, fr0_none (Keep.back k1 hR1.at_.choose_spec.choose_spec.hr ha), FE.val (hf p 8 hres.symm) k1 e3 ha hd⟩⟩
  · have hyes : lo ≤ n ∧ n ≤ hi := of_decide_eq_true (by rw [← Bool.not_eq_false']; exact hb)
    rw [if_pos hyes] at hres
    walk_at "go"
    refine ⟨_, _, rfl, .inl (.inl (by assumption)), hB.2, ?_⟩
    rw [← hB.1]
    exact q n rest H1 hres.symm k1 hR1
theorem names_at {H : Hp} : ∀ {xs : List Addr} {names : List (List Nat)}, Paired (NamedAt K H) xs names → ∃ nbs : List Addr, Paired (fun (b : Addr) (nm : List Nat) => H b = some (.tup (vN nm))) nbs names ∧
    Paired (fun (x b : Addr) => ∃ C dx fs, H x = some (.ins C dx fs) ∧ Cls K C ∧ NoAttr K C "name" ∧ fs.lookup ("name" : Str) = some (.ref b)) xs nbs
  | _, _, .nil => ⟨[], .nil, .nil⟩
  | _, _, .cons r t => by
    obtain ⟨C, dx, fs, b, h1, h2, h3, h4, h5⟩ := r
    obtain ⟨nbs, q1, q2⟩ := names_at t
    exact ⟨b :: nbs, .cons h5 q1, .cons ⟨C, dx, fs, h1, h2, h3, h4⟩ q2⟩
theorem dpNames {H : Hp} : ∀ {nbs : List Addr} {names : List (List Nat)}, Paired (fun (b : Addr) (nm : List Nat) => H b = some (.tup (vN nm))) nbs names → DpAll K H (nbs.map V.ref) (dT names)
  | _, _, .nil => .nil
  | _, _, .cons h t => .cons (.tup (.inl (.inl h)) (dp_N _)) (dpNames t)
theorem cal_new_name (T : Tx K mg) : Cal P w K mg base 7 "new_name" (sp_new_name K) := by
  have c_Token_fault := met_Token_fault (P := P) (w := w) (base := base) T
  have c_Reader_take := met_take (P := P) (w := w) (base := base) T
  obtain ⟨fd, F⟩ := T.def_ 31 (d := d_new_name) rfl
  refine cal_of F (g_new_name T) sc_new_name (fun _ _ _ _ _ _ us hl => match us, hl with | [_, _], _ => rfl) (fun vs H Q E h => ?_) fun cdv A outer s H vs Q E hr h => ⟨_, (pss_cons (ps_set (i := 2) sc_new_name.nd rfl (Or.inl rfl) (pe_mt c_Reader_take hr (by decide) (passes_call (takes_of rfl rfl rfl rfl) fun _ _ _ _ z => z) (pv 0) (pa_cons (pe_gs (s_NAME T)) pa_nil)))
    (pss_cons (ps_if (pt_cmpR (op_inD (hu65 hr)) (pe_fld (pv 2) rfl) (pe_lc (own := [("own", 3)]) rfl sc_new_name.nd (pi_list (pv 1)) (blkOk_by (own := [("own", 3)]) (N := N_new_name) (sc := defScope s_new_name) (by decide +kernel)) (fun _ _ _ _ _ => by exact (pg_name (i := 3) sc_new_name.nd rfl (Or.inl rfl))) (fun _ _ _ _ _ => by exact pts_nil) (fun _ _ _ _ _ => by exact (pe_fldK (K := K) rfl (pv 3) rfl))) rfl) (pss_one (ps_raise rfl (takes_of rfl rfl rfl rfl) (pmk_val (o_Fault T) rfl (pe_mt c_Token_fault hr (by decide) passL (pv 2) (pa_cons (pe_gi (i_TWICE T)) pa_nil))))) pss_nil)
    (pss_one (ps_ret (pe_fld (pv 2) rfl))))), ?_⟩
  · obtain ⟨r, dx, tx, t, ts, l, xs, names, rfl, _⟩ := h
    rfl
  obtain ⟨r, dx, tx, t, ts, l, xs, names, rfl, hR, hlen, hl, hn, hz, hf, q⟩ := h
  obtain ⟨i0, v0, h0⟩ := hR.at_
  have hr0 := h0.hr
  obtain ⟨res, hres⟩ : ∃ res, rNew names ts = res := ⟨_, rfl⟩
  rw [hres] at hf q
  unfold rNew at hres
  walk_at "go"
  refine ⟨r, dx, tx, t, ts, .name, rfl, by decide, hR, hlen, fun p k hk => hf p k (by rw [← hres, hk] <;> rfl), fun x p tok bs rest H1 ht k1 hR1 hA hB => ?_⟩
  rw [ht] at hres
  obtain ⟨nm, hnm, _⟩ := take_name ht hR.sgn
  dsimp only at hnm
  subst hnm
  dsimp only [Except.bind] at hres
  have hB : bs = nm := hB
  subst hB
  obtain ⟨dx', b, htok, hb⟩ := id hA
  have hl1 : H1 l = some (.lst (xs.map V.ref)) := kept k1 hR hl fun v i z => by cases z
  dsimp only [gName]
  refine tifsS (names.contains bs) (fun R q => ?_) (fun H2 e2 hb => ?_) (fun H2 e2 hb => ?_)
  · have hn1 : Paired (NamedAt K H1) xs names := Paired.mapP hn fun _ _ z => z.kept k1 hR
    obtain ⟨nbs, pb, px⟩ := names_at hn1
    have lb := pair_len px
    walk_at "go"
    refine ⟨⟨_, SqL.of hl1⟩, fun D hD => lcS_list (xs := xs.map V.ref) (fun k => (nbs.take k).map V.ref) hD rfl (SqL.of hl1) ?_ ?_⟩
    · intro i y H2 hy a
      obtain ⟨ad, had, rfl⟩ := of_vR hy
      obtain ⟨b2, hb2, C, dx2, fs, h1, h2, h3, h4⟩ := pair_two px had
      refine ⟨rfl, ?_⟩
      refine ⟨_, rfl, _, _, _, _, _, rfl, a.1 _ _ h1, h2, h3, h4, ?_⟩
      refine AddTo.of hD a (Same.refl _) (by rw [take_more hb2, List.map_append] <;> rfl) ?_
      have hi : i < xs.length := (List.getElem?_eq_some_iff.mp had).1
      rw [List.length_map, List.length_take, sizeLine_eq]
      omega
    · intro H2 a
      rw [List.length_map, lb, List.take_length] at a
      have pb2 : Paired (fun (b : Addr) (nm : List Nat) => H2 b = some (.tup (vN nm))) nbs names := Paired.mapP pb fun _ _ z => a.1 _ _ z
      refine ⟨_, _, .tup (.inl (.inl (a.1 _ _ (by assumption)))) (dp_N bs), .lst (SqL.of a.2) (dpNames pb2), shT_N _, shL_T _, ?_⟩
      rw [any_T]
      walk_at "go"
      exact q H2 a.1
  · rw [if_pos hb] at hres
    have htok2 := e2 _ _ htok
    have k2 := Keep.trans k1 (Keep.of e2)
    have hR2 := hR1.same e2
    walk_at "go"
    refine ⟨x, 6, p, _, bs, rfl, hA.same e2, fun a' d H3 e3 ha e1 e4 hd => ⟨a', d, _, rfl, e1, e4, fr0_none (Keep.back k2 hR2.at_.choose_spec.choose_spec.hr ha), FE.val (hf p 6 hres.symm) k2 e3 ha hd⟩⟩
  · rw [if_neg (by rw [hb]; decide)] at hres
    have htok2 := e2 _ _ htok
    walk_at "go"
    exact q bs rest b H2 hres.symm (Keep.trans k1 (Keep.of e2)) (hR1.same e2) (e2 _ _ (by assumption))
end
end
section
local macro_rules | `(tactic| walk_at "v") => `(tactic| refine ⟨_, rfl, ?_⟩)
local macro_rules | `(tactic| walk_at "ii") => `(tactic| refine ⟨_, _, rfl, rfl, ?_⟩)
local macro_rules | `(tactic| walk_at "no") => `(tactic| first | exact n_Plan_groups ‹_› | exact n_Plan_tests ‹_› | exact n_Group_name ‹_› | exact n_Group_cost ‹_› | exact n_Test_name ‹_› | exact n_Test_cost ‹_› | exact n_Test_chance ‹_› | exact n_Test_group ‹_› | exact n_Test_behind ‹_› | exact n_Token_mark ‹_› | exact n_Token_some ‹_› | exact n_Token_place ‹_› | exact n_Reader_text ‹_› | exact n_Reader_at ‹_› | exact n_Reader_seen ‹_› | exact n_Search_plan ‹_› | exact n_Search_known ‹_› | exact n_Desk_plan ‹_›)
local macro_rules | `(tactic| walk_at "cl") => `(tactic| first | exact c_Plan ‹_› | exact c_Test ‹_› | exact c_Group ‹_› | exact c_Token ‹_› | exact c_Reader ‹_› | exact c_Search ‹_› | exact c_Desk ‹_›)
local macro_rules | `(tactic| walk_at "f") => `(tactic| (refine ⟨_, _, _, _, _, rfl, by first | assumption | exact upd_same, ?cl, ?no, rfl, ?_⟩; (case cl => walk_at "cl"); (case no => walk_at "no")))
local macro_rules | `(tactic| walk_at "m") => `(tactic| refine ⟨_, _, _, rfl, by first | assumption | exact upd_same, rfl, ?_⟩)
local macro_rules | `(tactic| walk_at "go") => `(tactic| repeat (first | walk_at "v" | walk_at "ii" | walk_at "f" | walk_at "m"))
local macro_rules | `(tactic| walk_at "s") => `(tactic| (refine ⟨_, _, _, _, rfl, by first | assumption | exact upd_same, ?cl, ?no, of_decide_eq_true rfl, ?_⟩; (case cl => walk_at "cl"); (case no => walk_at "no")))
abbrev N_Group_init : List Str := ["self", "name", "cost"]
theorem sc_Group_init : FnScope N_Group_init ["self", "name", "cost"] (defScope s_Group_init) := C8.fnScope_by (by decide +kernel)
abbrev N_Test_init : List Str := ["self", "name", "cost", "chance", "group", "behind"]
theorem sc_Test_init : FnScope N_Test_init ["self", "name", "cost", "chance", "group", "behind"] (defScope s_Test_init) := C8.fnScope_by (by decide +kernel)
abbrev N_Plan_init : List Str := ["self"]
theorem sc_Plan_init : FnScope N_Plan_init ["self"] (defScope s_Plan_init) := C8.fnScope_by (by decide +kernel)
abbrev N_read_group : List Str := ["reader", "plan", "token", "name", "cost"]
theorem sc_read_group : FnScope N_read_group ["reader", "plan"] (defScope s_read_group) := C8.fnScope_by (by decide +kernel)
section
variable {P : Program} {w : World} {K : PySem.W.Frag} {mg : Str → Option Value} {base : Heap}
def sp_Group (K : PySem.W.Frag) : Sp := fun vs H Q _ => ∃ (x dx : Addr) (n c : V), vs = [.ref x, n, c] ∧ H x = some (.ins (He.ga K "Group") dx []) ∧
  ∀ H', (∃ dx, H' x = some (.ins (He.ga K "Group") dx [("name", n), ("cost", c)])) → (∀ b o, H b = some o → b ≠ x → H' b = some o) → Q .non H'
theorem mak_Group (T : Tx K mg) : Mak P w K mg base 1 "Group" (sp_Group K) := by
  obtain ⟨fd, F⟩ := T.def_ 23 (d := d_Group_init) rfl
  refine mak_of F (mk_Group T) (g_Group T) sc_Group_init (fun _ _ _ _ _ _ us hl => match us, hl with | [_, _, _], _ => rfl) (fun vs H Q E h => ?_) fun cdv A outer s H vs Q E hr h => ⟨_, (pss_cons (ps_fld (pv 0) (pv 1) rfl)
    (pss_one (ps_fld (pv 0) (pv 2) rfl))), ?_⟩
  · obtain ⟨x, dx, n, c, rfl, _⟩ := h
    rfl
  obtain ⟨x, dx, n, c, rfl, hx, q⟩ := h
  walk_at "go"
  walk_at "s"
  walk_at "go"
  walk_at "s"
  refine q _ ⟨dx, upd_same⟩ fun b o hb hbx => ?_
  rw [upd_ne hbx, upd_ne hbx]
  exact hb
def sp_Test (K : PySem.W.Frag) : Sp := fun vs H Q _ => ∃ (x dx : Addr) (n c h g b : V), vs = [.ref x, n, c, h, g, b] ∧ H x = some (.ins (He.ga K "Test") dx []) ∧
  ∀ H', (∃ dx, H' x = some (.ins (He.ga K "Test") dx [("name", n), ("cost", c), ("chance", h), ("group", g), ("behind", b)])) → (∀ b o, H b = some o → b ≠ x → H' b = some o) → Q .non H'
theorem mak_Test (T : Tx K mg) : Mak P w K mg base 1 "Test" (sp_Test K) := by
  obtain ⟨fd, F⟩ := T.def_ 24 (d := d_Test_init) rfl
  refine mak_of F (mk_Test T) (g_Test T) sc_Test_init (fun _ _ _ _ _ _ us hl => match us, hl with | [_, _, _, _, _, _], _ => rfl) (fun vs H Q E h => ?_) fun cdv A outer s H vs Q E hr h => ⟨_, (pss_cons (ps_fld (pv 0) (pv 1) rfl)
    (pss_cons (ps_fld (pv 0) (pv 2) rfl)
    (pss_cons (ps_fld (pv 0) (pv 3) rfl)
    (pss_cons (ps_fld (pv 0) (pv 4) rfl)
    (pss_one (ps_fld (pv 0) (pv 5) rfl)))))), ?_⟩
  · obtain ⟨x, dx, n, c, h, g, b, rfl, _⟩ := h
    rfl
  obtain ⟨x, dx, n, c, h, g, b, rfl, hx, q⟩ := h
  walk_at "go"
  walk_at "s"
  walk_at "go"
  walk_at "s"
  walk_at "go"
  walk_at "s"
  walk_at "go"
  walk_at "s"
  walk_at "go"
  walk_at "s"
  refine q _ ⟨dx, upd_same⟩ fun b o hb hbx => ?_
  rw [upd_ne hbx, upd_ne hbx, upd_ne hbx, upd_ne hbx, upd_ne hbx]
  exact hb
def sp_Plan (K : PySem.W.Frag) : Sp := fun vs H Q _ => ∃ (x dx : Addr), vs = [.ref x] ∧ H x = some (.ins (He.ga K "Plan") dx []) ∧
  ∀ H' g t, PlanL K H' x g t [] [] Vatsld.emptyPlan → (∀ b o, H b = some o → b ≠ x → H' b = some o) → H g = none → H t = none → g ≠ x → t ≠ x → Q .non H'
theorem mak_Plan (T : Tx K mg) : Mak P w K mg base 1 "Plan" (sp_Plan K) := by
  obtain ⟨fd, F⟩ := T.def_ 25 (d := d_Plan_init) rfl
  refine mak_of F (mk_Plan T) (g_Plan T) sc_Plan_init (fun _ _ _ _ _ _ us hl => match us, hl with | [_], _ => rfl) (fun vs H Q E h => ?_) fun cdv A outer s H vs Q E hr h => ⟨_, (pss_cons (ps_fld (pv 0) (pe_lst pa_nil) rfl)
    (pss_one (ps_fld (pv 0) (pe_lst pa_nil) rfl))), ?_⟩
  · obtain ⟨x, dx, rfl, _⟩ := h
    rfl
  obtain ⟨x, dx, rfl, hx, q⟩ := h
  walk_at "go"
  refine ⟨Nat.zero_le _, fun g hg => ?_⟩
  generalize hH1 : upd H g _ = H1
  obtain ⟨e1, hg1⟩ := new_at hg hH1
  have hx1 := e1 _ _ hx
  walk_at "v"
  walk_at "s"
  have hgx : g ≠ x := (ne_of_none hx hg).symm
  generalize hH2 : upd H1 x _ = H2
  have hx2 : H2 x = some (.ins (He.ga K "Plan") dx [("groups", .ref g)]) := by
    subst hH2
    exact upd_same
  have hg2 : H2 g = some (.lst []) := by
    subst hH2
    rw [upd_ne hgx]
    exact hg1
  refine ⟨Nat.zero_le _, fun t ht => ?_⟩
  generalize hH3 : upd H2 t _ = H3
  obtain ⟨e3, ht3⟩ := new_at ht hH3
  have hx3 := e3 _ _ hx2
  walk_at "v"
  walk_at "s"
  have htx : t ≠ x := (ne_of_none hx2 ht).symm
  have hgt : g ≠ t := ne_of_none hg2 ht
  refine q _ g t ⟨⟨dx, upd_same⟩, ?_, ?_, .nil, .nil, hgt⟩ (fun b o hb hbx => ?_) hg ?_ hgx htx
  · rw [upd_ne hgx]
    exact e3 _ _ hg2
  · rw [upd_ne htx]
    exact ht3
  · rw [upd_ne hbx]
    refine e3 _ _ ?_
    subst hH2
    rw [upd_ne hbx]
    exact e1 _ _ hb
  · subst hH2
    rw [upd_ne htx] at ht
    exact Same.free e1 ht
theorem GroupAt.mut {H : Hp} {x y : Addr} {g : Vatsld.Group} {l l' : List V} (h : GroupAt K H x g) (hy : H y = some (.lst l)) : GroupAt K (upd H y (.lst l')) x g := by
  obtain ⟨d, nm, h1, h2⟩ := h
  exact ⟨d, nm, by rw [upd_ne (ne_of h1 hy fun z => by cases z)]; exact h1, by rw [upd_ne (ne_of h2 hy fun z => by cases z)]; exact h2⟩
theorem TestOff.mut {H : Hp} {x y g t : Addr} {j : Vatsld.Job} {l l' : List V} (h : TestOff K H g t x j) (hy : H y = some (.lst l)) (hyg : y = g ∨ y = t) : TestOff K (upd H y (.lst l')) g t x j := by
  obtain ⟨d, nm, b, h1, h2, h3, h4, h5⟩ := h
  have n : b ≠ y := by rcases hyg with rfl | rfl <;> assumption
  exact ⟨d, nm, b, by rw [upd_ne (ne_of h1 hy fun z => by cases z)]; exact h1, by rw [upd_ne (ne_of h2 hy fun z => by cases z)]; exact h2, by rw [upd_ne n]; exact h3, h4, h5⟩
theorem Rds.mut {H : Hp} {r dx tx y : Addr} {t : List Nat} {ts : Vatsld.Toks} {l l' : List V} (h : Rds K H r dx tx t ts) (hy : H y = some (.lst l)) (hyt : y ≠ tx) : Rds K (upd H y (.lst l')) r dx tx t ts := by
  have R : ∀ {i : Nat} {v : V}, RdX K H r dx tx t i v → RdX K (upd H y (.lst l')) r dx tx t i v := fun {i v} z => ⟨by rw [upd_ne (ne_of z.hr hy fun z => by cases z)]; exact z.hr, by rw [upd_ne (Ne.symm hyt)]; exact z.ht, z.hi⟩
  rcases h with ⟨i, h1, h2⟩ | ⟨i, x, tok, bs, ⟨h1, ⟨d, b, h2, h5⟩, h3⟩, h4⟩
  · exact .inl ⟨i, R h1, h2⟩
  · exact .inr ⟨i, x, tok, bs, ⟨R h1, ⟨d, b, by rw [upd_ne (ne_of h2 hy fun z => by cases z)]; exact h2, by rw [upd_ne (ne_of h5 hy fun z => by cases z)]; exact h5⟩, h3⟩, h4⟩
theorem PlanL.more {H : Hp} {a g t x : Addr} {gs js : List Addr} {p : Vatsld.Plan} {y : Vatsld.Group} (h : PlanL K H a g t gs js p) (hx : GroupAt K H x y) : PlanL K (upd H g (.lst (gs.map V.ref ++ [.ref x]))) a g t (gs ++ [x]) js (addGroup p y) := by
  obtain ⟨⟨d, h1⟩, h2, h3, h4, h5, h6⟩ := h
  refine ⟨⟨d, ?_⟩, ?_, ?_, pair_append (Paired.mapP h4 fun _ _ z => z.mut h2) (.cons (hx.mut h2) .nil), Paired.mapP h5 fun _ _ z => z.mut h2 (.inl rfl), h6⟩
  · rw [upd_ne (ne_of h1 h2 fun z => by cases z)]
    exact h1
  · rw [upd_same, List.map_append] <;> rfl
  · rw [upd_ne (Ne.symm h6)]
    exact h3
theorem PlanL.moreT {H : Hp} {a g t x : Addr} {gs js : List Addr} {p : Vatsld.Plan} {y : Vatsld.Job} (h : PlanL K H a g t gs js p) (hx : TestOff K H g t x y) : PlanL K (upd H t (.lst (js.map V.ref ++ [.ref x]))) a g t gs (js ++ [x]) (addJob p y) := by
  obtain ⟨⟨d, h1⟩, h2, h3, h4, h5, h6⟩ := h
  refine ⟨⟨d, ?_⟩, ?_, ?_, Paired.mapP h4 fun _ _ z => z.mut h3, pair_append (Paired.mapP h5 fun _ _ z => z.mut h3 (.inr rfl)) (.cons (hx.mut h3 (.inr rfl)) .nil), h6⟩
  · rw [upd_ne (ne_of h1 h3 fun z => by cases z)]
    exact h1
  · rw [upd_ne h6]
    exact h2
  · rw [upd_same, List.map_append] <;> rfl
/-- reading a group: on success one more -/
def sp_read_group (K : PySem.W.Frag) : Sp := fun vs H Q E => ∃ (r dx tx : Addr) (t : List Nat) (ts : Vatsld.Toks) (a g tl : Addr) (gs js : List Addr) (p : Vatsld.Plan), vs = [.ref r, .ref a] ∧ Rds K H r dx tx t ts ∧ t.length ≤ 100000 ∧ PlanL K H a g tl gs js p ∧ p.groups.length ≤ 3 ∧ g ≠ tx ∧
  (∀ q k, rGroup p ts = .error (k, q) → FE K [r] E k q H) ∧ ∀ p' rest gs' H', rGroup p ts = .ok (p', rest) → Keep [r, g] H H' → Rds K H' r dx tx t rest → PlanL K H' a g tl gs' js p' → Q .non H'
theorem cal_read_group (T : Tx K mg) : Cal P w K mg base 8 "read_group" (sp_read_group K) := by
  have c_Token_fault := met_Token_fault (P := P) (w := w) (base := base) T
  have c_Reader_take := met_take (P := P) (w := w) (base := base) T
  have c_new_name := cal_new_name (P := P) (w := w) (base := base) T
  have c_number_of := cal_number_of (P := P) (w := w) (base := base) T
  have c_Group := mak_Group (P := P) (w := w) (base := base) T
  obtain ⟨fd, F⟩ := T.def_ 32 (d := d_read_group) rfl
  refine cal_of F (g_read_group T) sc_read_group (fun _ _ _ _ _ _ us hl => match us, hl with | [_, _], _ => rfl) (fun vs H Q E h => ?_) fun cdv A outer s H vs Q E hr h => ⟨_, (pss_cons (ps_set (i := 2) sc_read_group.nd rfl (Or.inl rfl) (pe_mt c_Reader_take hr (by decide) (passes_call (takes_of rfl rfl rfl rfl) fun _ _ _ _ z => z) (pv 0) (pa_cons pe_str pa_nil)))
    (pss_cons (ps_if (pt_cmpR op_eq (pe_callB call_len_seq (by rfl) (f_len T) (by decide +kernel) (pa_cons (pe_fld (pv 1) rfl) pa_nil)) (pe_gi (i_MOST_GROUPS T)) (nomark _)) (pss_one (ps_raise rfl (takes_of rfl rfl rfl rfl) (pmk_val (o_Fault T) rfl (pe_mt c_Token_fault hr (by decide) passL (pv 2) (pa_cons (pe_gi (i_TOO_MUCH T)) pa_nil))))) pss_nil)
    (pss_cons (ps_set (i := 3) sc_read_group.nd rfl (Or.inl rfl) (pe_c c_new_name hr (by decide) (passes_call (takes_of rfl rfl rfl rfl) fun _ _ _ _ z => z) (pa_cons (pv 0) (pa_cons (pe_fld (pv 1) rfl) pa_nil))))
    (pss_cons (ps_set (i := 4) sc_read_group.nd rfl (Or.inl rfl) (pe_c c_number_of hr (by decide) passL (pa_cons (pe_fld (pe_mt c_Reader_take hr (by decide) (passes_call (takes_of rfl rfl rfl rfl) fun _ _ _ _ z => z) (pv 0) (pa_cons (pe_gs (s_NUMBER T)) pa_nil)) rfl) pa_nil)))
    (pss_cons (ps_expr (pe_mt c_Reader_take hr (by decide) (passes_call (takes_of rfl rfl rfl rfl) fun _ _ _ _ z => z) (pv 0) (pa_cons pe_str pa_nil)))
    (pss_one (ps_expr (pe_bm PySem.F.plainAttrs_list PySem.F.slot_list_append PySem.F.type_list_append mt_append (pe_fld (pv 1) rfl) (pa_cons (pe_mk c_Group hr (by decide) passL (pa_cons (pv 3) (pa_cons (pv 4) pa_nil))) pa_nil))))))))), ?_⟩
  · obtain ⟨r, dx, tx, t, ts, a, g, tl, gs, js, p, rfl, _⟩ := h
    rfl
  obtain ⟨r, dx, tx, t, ts, a, g, tl, gs, js, p, rfl, hR, hlen, hp, hg3, hgx, hf, q⟩ := h
  obtain ⟨i0, v0, h0⟩ := hR.at_
  have hr0 := h0.hr
  obtain ⟨res, hres⟩ : ∃ res, rGroup p ts = res := ⟨_, rfl⟩
  rw [hres] at hf q
  unfold rGroup at hres
  walk_at "go"
  refine ⟨r, dx, tx, t, ts, .group, rfl, by decide, hR, hlen, fun p k hk => hf p k (by rw [← hres, hk] <;> rfl), fun x p1 tok bs rest H1 ht k1 hR1 hA hB => ?_⟩
  rw [ht] at hres
  dsimp only [Except.bind] at hres
  have hp1 := hp.kept k1 hR
  obtain ⟨dp, hpa⟩ := hp1.at_
  obtain ⟨dx', b, htok, hbb⟩ := id hA
  dsimp only [gName]
  refine tifs (decide (p.groups.length = 3)) (fun R q => ?_) (fun hb => ?_) (fun hb => ?_)
  · walk_at "go"
    refine ⟨_, _, rfl, .inl (SqL.of hp1.hg), ?_⟩
    refine ⟨rfl, ?_⟩
    walk_at "go"
    rw [List.length_map, hp1.lenG, show decide (V.int ((p.groups.length : Nat) : Int) = V.int 3) = decide (p.groups.length = 3) from dec_nat]
    exact q
  · have hb := of_decide_eq_true hb
    rw [if_pos hb] at hres
    walk_at "go"
    refine ⟨x, 5, p1, _, bs, rfl, hA, fun a' d H3 e3 ha e1 e4 hd => ⟨a', d, _, rfl, e1, e4, fr0_none (Keep.back k1 hR1.at_.choose_spec.choose_spec.hr ha), FE.val (hf p1 5 hres.symm) k1 e3 ha hd⟩⟩
  · have hb := of_decide_eq_false hb
    rw [if_neg hb] at hres
    walk_at "go"
    refine ⟨r, dx, tx, t, rest, g, gs, gNames p, rfl, hR1, hlen, hp1.hg, hp1.gn T, by rw [hp1.lenG]; omega, fun q' k hk => FE.of (hf q' k (by rw [← hres, hk] <;> rfl)) k1 (fun _ z => z), fun wn rest2 bn H2 hnew k2 hR2 hbn => ?_⟩
    rw [hnew] at hres
    dsimp only [Except.bind] at hres
    have k12 := Keep.trans k1 k2
    obtain ⟨i2, v2, h2⟩ := hR2.at_
    have hr2 := h2.hr
    dsimp only [gName]
    walk_at "go"
    refine ⟨r, dx, tx, t, rest2, .num, rfl, by decide, hR2, hlen, fun q' k hk => FE.of (hf q' k (by rw [← hres]; unfold rNum; rw [hk] <;> rfl)) k12 (fun _ z => z), fun x3 q3 tok3 bs3 rest3 H3 ht3 k3 hR3 hA3 hB3 => ?_⟩
    obtain ⟨n, hn⟩ := take_num ht3 hR2.sgn
    dsimp only at hn
    subst hn
    have hnum : rNum rest2 = .ok (n, rest3) := by
      unfold rNum
      rw [ht3] <;> rfl
    rw [hnum] at hres
    dsimp only [Except.bind] at hres
    have k123 := Keep.trans k12 k3
    obtain ⟨dx3, b3, htok3, hb3⟩ := id hA3
    obtain ⟨i3, v3, h3⟩ := hR3.at_
    have hr3 := h3.hr
    walk_at "go"
    refine ⟨_, _, rfl, .inl (.inl hb3), hB3.2, ?_⟩
    rw [← hB3.1]
    dsimp only [gName]
    walk_at "go"
    refine ⟨r, dx, tx, t, rest3, .semi, rfl, by decide, hR3, hlen, fun q' k hk => FE.of (hf q' k (by rw [← hres, hk] <;> rfl)) k123 (fun _ z => z), fun x4 q4 tok4 bs4 rest4 H4 ht4 k4 hR4 hA4 hB4 => ?_⟩
    rw [ht4] at hres
    dsimp only [Except.bind] at hres
    have k1234 := Keep.trans k123 k4
    have hp4 := ((hp1.kept k2 hR1).kept k3 hR2).kept k4 hR3
    have hbn4 : H4 bn = some (.tup (vN wn)) := kept k4 hR3 (kept k3 hR2 hbn fun v i z => (by cases z)) fun v i z => by cases z
    obtain ⟨dp4, hpa4⟩ := hp4.at_
    walk_at "go"
    refine ⟨.inl ⟨rfl, _, SqL.of hp4.hg⟩, ?_⟩
    walk_at "go"
    intro xg dxg hxg hdg hne
    refine ⟨xg, dxg, _, _, rfl, upd_same, fun H5 ⟨d5, e51⟩ e52 => ⟨rfl, ?_⟩⟩
    have e5 := Same.made hxg hdg e52
    have hp5 := hp4.same e5
    have hR5 := hR4.same e5
    refine ⟨_, _, _, rfl, rfl, hp5.hg, ?_, ?_⟩
    · rw [List.length_map, hp5.lenG, sizeLine_eq]
      omega
    · refine q _ _ _ _ hres.symm ?_ (hR5.mut hp5.hg hgx) (hp5.more ⟨d5, bn, e51, e5 _ _ hbn4⟩)
      exact Keep.upd (Keep.trans (Keep.mono k1234 fun b hb => (by
        rw [List.mem_singleton] at hb
        rw [hb]
        exact List.mem_cons_self ..)) (Keep.of e5)) (.inl (by simp))
end
end
section
theorem nodup_len : ∀ (n : Nat) (l : List Nat), l.Nodup → (∀ x ∈ l, x < n) → l.length ≤ n
  | 0, [], _, _ => Nat.le_refl _
  | 0, x :: l, _, h => absurd (h x (List.mem_cons_self ..)) (Nat.not_lt_zero _)
  | n + 1, l, nd, h => by
    by_cases hn : n ∈ l
    · have z := nodup_len n (l.erase n) (nd.erase n) fun x hx => by
        have hx2 := (nd.mem_erase_iff).mp hx
        have := h x hx2.2
        have := hx2.1
        omega
      rw [List.length_erase_of_mem hn] at z
      omega
    · have z := nodup_len n l nd fun x hx => by
        have := h x hx
        have : x ≠ n := fun e => hn (e ▸ hx)
        omega
      omega
/-- what a statement reaches, told once -/
theorem joinS {s v : TS} {D : Ends} {σ : L2.St} {H : Hp} (Pd : L2.St → Hp → Prop) (h : ∀ Nx : L2.St → Hp → Prop, (∀ σ H, Pd σ H → Nx σ H) → s { D with nx := Nx } σ H) (hd : ∀ σ H, Pd σ H → v D σ H) : tSeq s v D σ H := h (v D) hd
theorem Keep.same {S : List Addr} {H H1 H2 : Hp} (e : Same H H1) (k : Keep S H1 H2) (h : ∀ b ∈ S, H b = none) : Same H H2 := fun b o hb => k b o (e b o hb) fun z => by
  rw [h b z] at hb
  cases hb
theorem FE.new {K : PySem.W.Frag} {S : List Addr} {E : XK} {k p : Nat} {H H' : Hp} (h : FE K [] E k p H) (e : Same H H') (hs : ∀ b ∈ S, H b = none) : FE K S E k p H' := fun d H'' k' hd => h d H'' (Keep.of (Keep.same e k' hs)) hd
theorem idxOf_lt {names : List (List Nat)} {w : List Nat} {i : Nat} (h : idxOf names w = some i) : i < names.length := by
  unfold idxOf at h
  rw [List.findIdx?_eq_some_iff_getElem] at h
  exact h.choose
local macro_rules | `(tactic| walk_at "v") => `(tactic| refine ⟨_, rfl, ?_⟩)
local macro_rules | `(tactic| walk_at "ii") => `(tactic| refine ⟨_, _, rfl, rfl, ?_⟩)
local macro_rules | `(tactic| walk_at "no") => `(tactic| first | exact n_Plan_groups ‹_› | exact n_Plan_tests ‹_› | exact n_Group_name ‹_› | exact n_Group_cost ‹_› | exact n_Test_name ‹_› | exact n_Test_cost ‹_› | exact n_Test_chance ‹_› | exact n_Test_group ‹_› | exact n_Test_behind ‹_› | exact n_Token_mark ‹_› | exact n_Token_some ‹_› | exact n_Token_place ‹_› | exact n_Reader_text ‹_› | exact n_Reader_at ‹_› | exact n_Reader_seen ‹_› | exact n_Search_plan ‹_› | exact n_Search_known ‹_› | exact n_Desk_plan ‹_›)
local macro_rules | `(tactic| walk_at "cl") => `(tactic| first | exact c_Plan ‹_› | exact c_Test ‹_› | exact c_Group ‹_› | exact c_Token ‹_› | exact c_Reader ‹_› | exact c_Search ‹_› | exact c_Desk ‹_›)
local macro_rules | `(tactic| walk_at "f") => `(tactic| (refine ⟨_, _, _, _, _, rfl, by first | assumption | exact upd_same, ?cl, ?no, rfl, ?_⟩; (case cl => walk_at "cl"); (case no => walk_at "no")))
local macro_rules | `(tactic| walk_at "m") => `(tactic| refine ⟨_, _, _, rfl, by first | assumption | exact upd_same, rfl, ?_⟩)
local macro_rules | `(tactic| walk_at "go") => `(tactic| repeat (first | walk_at "v" | walk_at "ii" | walk_at "f" | walk_at "m"))
local macro_rules | `(tactic| walk_at "s") => `(tactic| (refine ⟨_, _, _, _, rfl, by first | assumption | exact upd_same, ?cl, ?no, of_decide_eq_true rfl, ?_⟩; (case cl => walk_at "cl"); (case no => walk_at "no")))
abbrev N_read_behind : List Str := ["reader", "plan", "found", "token", "number"]
theorem sc_read_behind : FnScope N_read_behind ["reader", "plan"] (defScope s_read_behind) := C8.fnScope_by (by decide +kernel)
abbrev N_read_test : List Str := ["reader", "plan", "token", "name", "cost", "chance", "group", "behind"]
theorem sc_read_test : FnScope N_read_test ["reader", "plan"] (defScope s_read_test) := C8.fnScope_by (by decide +kernel)
section
variable {P : Program} {w : World} {K : PySem.W.Frag} {mg : Str → Option Value} {base : Heap}
def sp_read_behind (K : PySem.W.Frag) : Sp := fun vs H Q E => ∃ (r dx tx : Addr) (t : List Nat) (ts : Vatsld.Toks) (a g tl : Addr) (gs js : List Addr) (p : Vatsld.Plan), vs = [.ref r, .ref a] ∧ Rds K H r dx tx t ts ∧ t.length ≤ 100000 ∧ PlanL K H a g tl gs js p ∧ p.jobs.length ≤ 7 ∧
  (∀ q k, rBehind p ts = .error (k, q) → FE K [r] E k q H) ∧ ∀ l rest b H', rBehind p ts = .ok (l, rest) → Keep [r] H H' → Rds K H' r dx tx t rest → H' b = some (.lst (vN l)) → H b = none → Q (.ref b) H'
theorem cal_read_behind (T : Tx K mg) : Cal P w K mg base 7 "read_behind" (sp_read_behind K) := by
  have c_Token_fault := met_Token_fault (P := P) (w := w) (base := base) T
  have c_Reader_take := met_take (P := P) (w := w) (base := base) T
  have c_Reader_is_now := met_is_now (P := P) (w := w) (base := base) T
  have c_known := cal_known (P := P) (w := w) (base := base) T
  obtain ⟨fd, F⟩ := T.def_ 34 (d := d_read_behind) rfl
  refine cal_of F (g_read_behind T) sc_read_behind (fun _ _ _ _ _ _ us hl => match us, hl with | [_, _], _ => rfl) (fun vs H Q E h => ?_) fun cdv A outer s H vs Q E hr h => ⟨_, (pss_cons (ps_expr (pe_mt c_Reader_take hr (by decide) (passes_call (takes_of rfl rfl rfl rfl) fun _ _ _ _ z => z) (pv 0) (pa_cons pe_str pa_nil)))
    (pss_cons (ps_set (i := 2) sc_read_behind.nd rfl (Or.inl rfl) (pe_lst pa_nil))
    (pss_one (ps_while (passes_of rfl) (pt_val pe_bl) (pss_cons (ps_set (i := 3) sc_read_behind.nd rfl (Or.inl rfl) (pe_mt c_Reader_take hr (by decide) (passes_call (takes_of rfl rfl rfl rfl) fun _ _ _ _ z => z) (pv 0) (pa_cons (pe_gs (s_NAME T)) pa_nil)))
    (pss_cons (ps_set (i := 4) sc_read_behind.nd rfl (Or.inl rfl) (pe_c c_known hr (by decide) (passes_call (takes_of rfl rfl rfl rfl) fun _ _ _ _ z => z) (pa_cons (pe_fld (pv 1) rfl) (pa_cons (pv 3) pa_nil))))
    (pss_cons (ps_if (pt_cmpR op_in_seq (pv 4) (pv 2) rfl) (pss_one (ps_raise rfl (takes_of rfl rfl rfl rfl) (pmk_val (o_Fault T) rfl (pe_mt c_Token_fault hr (by decide) passL (pv 3) (pa_cons (pe_gi (i_TWICE T)) pa_nil))))) pss_nil)
    (pss_cons (ps_expr (pe_bm PySem.F.plainAttrs_list PySem.F.slot_list_append PySem.F.type_list_append mt_append (pv 2) (pa_cons (pv 4) pa_nil)))
    (pss_cons (ps_if (pt_not (pt_val (pe_mt c_Reader_is_now hr (by decide) (passes_call (takes_of rfl rfl rfl rfl) fun _ _ _ _ z => z) (pv 0) (pa_cons pe_str pa_nil)))) (pss_one (ps_ret (pv 2))) pss_nil)
    (pss_one (ps_expr (pe_mt c_Reader_take hr (by decide) (passes_call (takes_of rfl rfl rfl rfl) fun _ _ _ _ z => z) (pv 0) (pa_cons pe_str pa_nil))))))))))))), ?_⟩
  · obtain ⟨r, dx, tx, t, ts, a, g, tl, gs, js, p, rfl, _⟩ := h
    rfl
  obtain ⟨r, dx, tx, t, ts, a, g, tl, gs, js, p, rfl, hR, hlen, hp, hj7, hf, q⟩ := h
  obtain ⟨i0, v0, h0⟩ := hR.at_
  have hr0 := h0.hr
  obtain ⟨res, hres⟩ : ∃ res, rBehind p ts = res := ⟨_, rfl⟩
  rw [hres] at hf q
  unfold rBehind at hres
  walk_at "go"
  refine ⟨r, dx, tx, t, ts, .after_, rfl, by decide, hR, hlen, fun p k hk => hf p k (by rw [← hres, hk] <;> rfl), fun x p1 tok bs rest H1 ht k1 hR1 hA hB => ?_⟩
  rw [ht] at hres
  dsimp only [Except.bind] at hres
  walk_at "go"
  refine ⟨Nat.zero_le _, fun fd' hfd => ?_⟩
  generalize hH2 : upd H1 fd' _ = H2
  obtain ⟨e2, hf2⟩ := new_at hfd hH2
  have hfdH : H fd' = none := Keep.back k1 (hR1.at_.choose_spec.choose_spec.hr) hfd
  have hjn : (jNames p).length = p.jobs.length := List.length_map ..
  dsimp only [gName]
  refine while_to (fun σ H' => ∃ (l : List Nat) (ts' : Vatsld.Toks) (v3 v4 : Option V), σ = [some (.ref r), some (.ref a), some (.ref fd'), v3, v4] ∧ Keep [r] H H' ∧ Rds K H' r dx tx t ts' ∧ PlanL K H' a g tl gs js p ∧ H' fd' = some (.lst (vN l)) ∧
      rLoop (jNames p) (p.jobs.length + 1 - l.length) l ts' = res ∧ l.Nodup ∧ ∀ x ∈ l, x < p.jobs.length) (fun _ _ => False) (fun _ H' => match H' fd' with
    | some (.lst xs) => 8 - xs.length
    | _ => 0) ⟨[], rest, none, none, rfl, Keep.trans k1 (Keep.of e2), hR1.same e2, (hp.kept k1 hR).same e2, hf2, hres, List.nodup_nil, fun x z => by cases z⟩ ?_ (fun _ _ z => z.elim)
  rintro Nx hNx σ H3 ⟨l, ts3, v3, v4, rfl, k3, hR3, hp3, hf3, hres3, hnd, hbd⟩
  have hll := nodup_len _ l hnd hbd
  obtain ⟨i3, w3, h3⟩ := hR3.at_
  have hr3 := h3.hr
  obtain ⟨fu, hfu⟩ : ∃ fu, p.jobs.length + 1 - l.length = fu + 1 := ⟨p.jobs.length - l.length, by omega⟩
  rw [hfu] at hres3
  unfold rLoop at hres3
  refine ⟨true, rfl, turn ?_⟩
  walk_at "go"
  refine ⟨r, dx, tx, t, ts3, .name, rfl, by decide, hR3, hlen, fun p' k hk => FE.of (hf p' k (by rw [← hres3]; unfold rKnown; rw [hk] <;> rfl)) k3 (fun _ z => z), fun x4 p4 tok4 bs4 rest4 H4 ht4 k4 hR4 hA4 hB4 => ?_⟩
  obtain ⟨nm, hnm, _⟩ := take_name ht4 hR3.sgn
  dsimp only at hnm
  subst hnm
  have hB4 : bs4 = nm := hB4
  subst hB4
  have hp4 := hp3.kept k4 hR3
  obtain ⟨dp4, hpa4⟩ := hp4.at_
  have hf4 : H4 fd' = some (.lst (vN l)) := kept k4 hR3 hf3 fun v i z => by cases z
  have k34 := Keep.trans k3 k4
  obtain ⟨d4, b4, htok4, hb4⟩ := id hA4
  walk_at "go"
  refine ⟨tl, x4, js, jNames p, _, bs4, p4, rfl, hp4.ht, hp4.tn T, hA4, by rw [hp4.lenT]; omega, fun hno => FE.of (hf p4 7 (by rw [← hres3]; unfold rKnown; rw [ht4]; dsimp only [Except.bind]; rw [hno])) k34 (fun _ z => nomatch z), fun i H5 hi e5 => ?_⟩
  have hkn : rKnown (jNames p) ts3 = .ok ((p4, i), rest4) := by
    unfold rKnown
    rw [ht4]
    dsimp only [Except.bind]
    rw [hi]
  rw [hkn] at hres3
  dsimp only [Except.bind] at hres3
  have hf5 := e5 _ _ hf4
  have k5 := Keep.trans k34 (Keep.of e5)
  have hR5 := hR4.same e5
  have hA5 := hA4.same e5
  have htok5 := e5 _ _ htok4
  dsimp only [gName]
  refine tifs (l.contains i) (fun R q => ?_) (fun hb => ?_) (fun hb => ?_)
  · walk_at "go"
    refine ⟨_, _, rfl, .inl (SqL.of hf5), rfl, flat_N _, ?_⟩
    walk_at "go"
    rw [if_neg (by decide), in_N]
    exact q
  · rw [if_pos hb] at hres3
    walk_at "go"
    refine ⟨x4, 6, p4, _, bs4, rfl, hA5, fun a' d H6 e6 ha e1 e4 hd => ⟨a', d, _, rfl, e1, e4, fr0_none (Keep.back k5 hR5.at_.choose_spec.choose_spec.hr ha), FE.val (hf p4 6 hres3.symm) k5 e6 ha hd⟩⟩
  · rw [if_neg (by rw [hb]; decide)] at hres3
    have hni : i ∉ l := by
      intro z
      rw [List.contains_iff_mem.mpr z] at hb
      cases hb
    have hil := idxOf_lt hi
    rw [hjn] at hil
    walk_at "go"
    refine ⟨.inl ⟨rfl, _, SqL.of hf5⟩, ?_⟩
    walk_at "go"
    have hftx : fd' ≠ tx := by
      obtain ⟨i1, v1, h1⟩ := hR1.at_
      exact (ne_of_none h1.ht hfd).symm
    have hR6 := hR5.mut (l' := vN l ++ [.int (i : Nat)]) hf5 hftx
    have k6 : Keep [r] H (upd H5 fd' (.lst (vN l ++ [.int (i : Nat)]))) := Keep.upd k5 (.inr hfdH)
    refine ⟨_, _, _, rfl, rfl, hf5, by rw [vN_length, sizeLine_eq]; omega, ?_⟩
    have hf6 : (upd H5 fd' (.lst (vN l ++ [.int (i : Nat)]))) fd' = some (.lst (vN (l ++ [i]))) := by
      rw [upd_same, vN_append] <;> rfl
    generalize upd H5 fd' (HO.lst (vN l ++ [.int (i : Nat)])) = H6 at hR6 k6 hf6 ⊢
    obtain ⟨i6, w6, h6⟩ := hR6.at_
    have hr6 := h6.hr
    walk_at "go"
    refine ⟨r, dx, tx, t, rest4, .comma, rfl, hR6, hlen, fun p' k hk => FE.of (hf p' k (by rw [← hres3, hk] <;> rfl)) k6 (fun _ z => z), fun b7 H7 hb7 k7 hR7 => ?_⟩
    rw [hb7] at hres3
    dsimp only [Except.bind] at hres3
    have k67 := Keep.trans k6 k7
    have hf7 : H7 fd' = some (.lst (vN (l ++ [i]))) := kept k7 hR6 hf6 fun v i z => by cases z
    obtain ⟨i7, w7, h7⟩ := hR7.at_
    have hr7 := h7.hr
    walk_at "go"
    cases b7 with
    | false =>
      rw [if_neg (by decide)] at hres3
      walk_at "go"
      exact q (l ++ [i]) rest4 fd' H7 hres3.symm k67 hR7 hf7 hfdH
    | true =>
      rw [if_pos rfl] at hres3
      walk_at "go"
      refine ⟨r, dx, tx, t, rest4, .comma, rfl, by decide, hR7, hlen, fun p' k hk => FE.of (hf p' k (by rw [← hres3, hk] <;> rfl)) k67 (fun _ z => z), fun x8 p8 tok8 bs8 rest8 H8 ht8 k8 hR8 hA8 hB8 => ?_⟩
      rw [ht8] at hres3
      dsimp only [Except.bind] at hres3
      have k8' := Keep.trans k67 k8
      have hf8 : H8 fd' = some (.lst (vN (l ++ [i]))) := kept k8 hR7 hf7 fun v i z => by cases z
      refine ⟨⟨l ++ [i], rest8, _, _, rfl, k8', hR8, hp.kept k8' hR, hf8, ?_, ?_, ?_⟩, ?_⟩
      · rw [List.length_append, List.length_singleton, show p.jobs.length + 1 - (l.length + 1) = fu by omega]
        exact hres3
      · rw [List.nodup_append]
        exact ⟨hnd, by simp, fun a ha b hb z => hni (by rw [List.mem_singleton] at hb; rw [← hb, ← z]; exact ha)⟩
      · intro x hx
        rcases List.mem_append.mp hx with hx | hx
        · exact hbd x hx
        · rw [List.mem_singleton] at hx
          omega
      · dsimp only
        rw [hf8, hf3]
        dsimp only
        rw [vN_length, vN_length, List.length_append, List.length_singleton]
        omega
/-- reading a test: on success one more -/
def sp_read_test (K : PySem.W.Frag) : Sp := fun vs H Q E => ∃ (r dx tx : Addr) (t : List Nat) (ts : Vatsld.Toks) (a g tl : Addr) (gs js : List Addr) (p : Vatsld.Plan), vs = [.ref r, .ref a] ∧ Rds K H r dx tx t ts ∧ t.length ≤ 100000 ∧ PlanL K H a g tl gs js p ∧ p.groups.length ≤ 3 ∧ p.jobs.length ≤ 7 ∧ tl ≠ tx ∧
  (∀ q k, rTest p ts = .error (k, q) → FE K [r] E k q H) ∧ ∀ p' rest js' H', rTest p ts = .ok (p', rest) → Keep [r, tl] H H' → Rds K H' r dx tx t rest → PlanL K H' a g tl gs js' p' → Q .non H'
theorem cal_read_test (T : Tx K mg) : Cal P w K mg base 8 "read_test" (sp_read_test K) := by
  have c_Token_fault := met_Token_fault (P := P) (w := w) (base := base) T
  have c_Reader_take := met_take (P := P) (w := w) (base := base) T
  have c_Reader_is_now := met_is_now (P := P) (w := w) (base := base) T
  have c_known := cal_known (P := P) (w := w) (base := base) T
  have c_new_name := cal_new_name (P := P) (w := w) (base := base) T
  have c_take_right := cal_take_right (P := P) (w := w) (base := base) T
  have c_read_behind := cal_read_behind (P := P) (w := w) (base := base) T
  have c_Test := mak_Test (P := P) (w := w) (base := base) T
  obtain ⟨fd, F⟩ := T.def_ 35 (d := d_read_test) rfl
  refine cal_of F (g_read_test T) sc_read_test (fun _ _ _ _ _ _ us hl => match us, hl with | [_, _], _ => rfl) (fun vs H Q E h => ?_) fun cdv A outer s H vs Q E hr h => ⟨_, (pss_cons (ps_set (i := 2) sc_read_test.nd rfl (Or.inl rfl) (pe_mt c_Reader_take hr (by decide) (passes_call (takes_of rfl rfl rfl rfl) fun _ _ _ _ z => z) (pv 0) (pa_cons pe_str pa_nil)))
    (pss_cons (ps_if (pt_cmpR op_eq (pe_callB call_len_seq (by rfl) (f_len T) (by decide +kernel) (pa_cons (pe_fld (pv 1) rfl) pa_nil)) (pe_gi (i_MOST_TESTS T)) (nomark _)) (pss_one (ps_raise rfl (takes_of rfl rfl rfl rfl) (pmk_val (o_Fault T) rfl (pe_mt c_Token_fault hr (by decide) passL (pv 2) (pa_cons (pe_gi (i_TOO_MUCH T)) pa_nil))))) pss_nil)
    (pss_cons (ps_set (i := 3) sc_read_test.nd rfl (Or.inl rfl) (pe_c c_new_name hr (by decide) (passes_call (takes_of rfl rfl rfl rfl) fun _ _ _ _ z => z) (pa_cons (pv 0) (pa_cons (pe_fld (pv 1) rfl) pa_nil))))
    (pss_cons (ps_expr (pe_mt c_Reader_take hr (by decide) (passes_call (takes_of rfl rfl rfl rfl) fun _ _ _ _ z => z) (pv 0) (pa_cons pe_str pa_nil)))
    (pss_cons (ps_set (i := 4) sc_read_test.nd rfl (Or.inl rfl) (pe_c c_take_right hr (by decide) (passes_call (takes_of rfl rfl rfl rfl) fun _ _ _ _ z => z) (pa_cons (pv 0) (pa_cons pe_int (pa_cons pe_int pa_nil)))))
    (pss_cons (ps_expr (pe_mt c_Reader_take hr (by decide) (passes_call (takes_of rfl rfl rfl rfl) fun _ _ _ _ z => z) (pv 0) (pa_cons pe_str pa_nil)))
    (pss_cons (ps_set (i := 5) sc_read_test.nd rfl (Or.inl rfl) (pe_c c_take_right hr (by decide) (passes_call (takes_of rfl rfl rfl rfl) fun _ _ _ _ z => z) (pa_cons (pv 0) (pa_cons pe_int (pa_cons (pe_gi (i_MOST_CHANCE T)) pa_nil)))))
    (pss_cons (ps_set (i := 6) sc_read_test.nd rfl (Or.inl rfl) (pe_gi (i_NO_GROUP T)))
    (pss_cons (ps_if (pt_val (pe_mt c_Reader_is_now hr (by decide) (passes_call (takes_of rfl rfl rfl rfl) fun _ _ _ _ z => z) (pv 0) (pa_cons pe_str pa_nil))) (pss_cons (ps_expr (pe_mt c_Reader_take hr (by decide) (passes_call (takes_of rfl rfl rfl rfl) fun _ _ _ _ z => z) (pv 0) (pa_cons pe_str pa_nil)))
    (pss_one (ps_set (i := 6) sc_read_test.nd rfl (Or.inl rfl) (pe_c c_known hr (by decide) (passes_call (takes_of rfl rfl rfl rfl) fun _ _ _ _ z => z) (pa_cons (pe_fld (pv 1) rfl) (pa_cons (pe_mt c_Reader_take hr (by decide) (passes_call (takes_of rfl rfl rfl rfl) fun _ _ _ _ z => z) (pv 0) (pa_cons (pe_gs (s_NAME T)) pa_nil)) pa_nil)))))) pss_nil)
    (pss_cons (ps_set (i := 7) sc_read_test.nd rfl (Or.inl rfl) (pe_ifExp (pt_val (pe_mt c_Reader_is_now hr (by decide) (passes_call (takes_of rfl rfl rfl rfl) fun _ _ _ _ z => z) (pv 0) (pa_cons pe_str pa_nil))) (pe_c c_read_behind hr (by decide) (passes_call (takes_of rfl rfl rfl rfl) fun _ _ _ _ z => z) (pa_cons (pv 0) (pa_cons (pv 1) pa_nil))) (pe_lst pa_nil)))
    (pss_cons (ps_expr (pe_mt c_Reader_take hr (by decide) (passes_call (takes_of rfl rfl rfl rfl) fun _ _ _ _ z => z) (pv 0) (pa_cons pe_str pa_nil)))
    (pss_one (ps_expr (pe_bm PySem.F.plainAttrs_list PySem.F.slot_list_append PySem.F.type_list_append mt_append (pe_fld (pv 1) rfl) (pa_cons (pe_mk c_Test hr (by decide) passL (pa_cons (pv 3) (pa_cons (pv 4) (pa_cons (pv 5) (pa_cons (pv 6) (pa_cons (pv 7) pa_nil)))))) pa_nil))))))))))))))), ?_⟩
  · obtain ⟨r, dx, tx, t, ts, a, g, tl, gs, js, p, rfl, _⟩ := h
    rfl
  obtain ⟨r, dx, tx, t, ts, a, g, tl, gs, js, p, rfl, hR, hlen, hp, hg3, hj7, htlx, hf, q⟩ := h
  obtain ⟨i0, v0, h0⟩ := hR.at_
  have hr0 := h0.hr
  obtain ⟨res, hres⟩ : ∃ res, rTest p ts = res := ⟨_, rfl⟩
  rw [hres] at hf q
  unfold rTest at hres
  walk_at "go"
  refine ⟨r, dx, tx, t, ts, .test, rfl, by decide, hR, hlen, fun p k hk => hf p k (by rw [← hres, hk] <;> rfl), fun x p1 tok bs rest H1 ht k1 hR1 hA hB => ?_⟩
  rw [ht] at hres
  dsimp only [Except.bind] at hres
  have hp1 := hp.kept k1 hR
  obtain ⟨dp, hpa⟩ := hp1.at_
  obtain ⟨dx', b, htok, hbb⟩ := id hA
  dsimp only [gName]
  refine tifs (decide (p.jobs.length = 7)) (fun R q => ?_) (fun hb => ?_) (fun hb => ?_)
  · walk_at "go"
    refine ⟨_, _, rfl, .inl (SqL.of hp1.ht), ?_⟩
    refine ⟨rfl, ?_⟩
    walk_at "go"
    rw [List.length_map, hp1.lenT, show decide (V.int ((p.jobs.length : Nat) : Int) = V.int 7) = decide (p.jobs.length = 7) from dec_nat]
    exact q
  · have hb := of_decide_eq_true hb
    rw [if_pos hb] at hres
    walk_at "go"
    refine ⟨x, 5, p1, _, bs, rfl, hA, fun a' d H3 e3 ha e1 e4 hd => ⟨a', d, _, rfl, e1, e4, fr0_none (Keep.back k1 hR1.at_.choose_spec.choose_spec.hr ha), FE.val (hf p1 5 hres.symm) k1 e3 ha hd⟩⟩
  · have hb := of_decide_eq_false hb
    rw [if_neg hb] at hres
    walk_at "go"
    refine ⟨r, dx, tx, t, rest, tl, js, jNames p, rfl, hR1, hlen, hp1.ht, hp1.tn T, by rw [hp1.lenT]; omega, fun q' k hk => FE.of (hf q' k (by rw [← hres, hk] <;> rfl)) k1 (fun _ z => z), fun wn rest2 bn H2 hnew k2 hR2 hbn => ?_⟩
    rw [hnew] at hres
    dsimp only [Except.bind] at hres
    have k12 := Keep.trans k1 k2
    obtain ⟨i2, v2, h2⟩ := hR2.at_
    have hr2 := h2.hr
    dsimp only [gName]
    walk_at "go"
    refine ⟨r, dx, tx, t, rest2, .cost, rfl, by decide, hR2, hlen, fun q' k hk => FE.of (hf q' k (by rw [← hres, hk] <;> rfl)) k12 (fun _ z => z), fun x3 p3 tok3 bs3 rest3 H3 ht3 k3 hR3 hA3 hB3 => ?_⟩
    rw [ht3] at hres
    dsimp only [Except.bind] at hres
    have k13 := Keep.trans k12 k3
    have hbn3 : H3 bn = some (.tup (vN wn)) := kept k3 hR2 hbn fun v i z => by cases z
    walk_at "go"
    refine ⟨r, dx, tx, t, rest3, 1, 1000, rfl, hR3, hlen, fun q' k hk => FE.of (hf q' k (by rw [← hres, hk] <;> rfl)) k13 (fun _ z => z), fun c rest4 H4 hc k4 hR4 => ?_⟩
    rw [hc] at hres
    dsimp only [Except.bind] at hres
    have k14 := Keep.trans k13 k4
    have hbn4 : H4 bn = some (.tup (vN wn)) := kept k4 hR3 hbn3 fun v i z => by cases z
    obtain ⟨i4, v4, h4⟩ := hR4.at_
    have hr4 := h4.hr
    dsimp only [gName]
    walk_at "go"
    refine ⟨r, dx, tx, t, rest4, .chance, rfl, by decide, hR4, hlen, fun q' k hk => FE.of (hf q' k (by rw [← hres, hk] <;> rfl)) k14 (fun _ z => z), fun x5 p5 tok5 bs5 rest5 H5 ht5 k5 hR5 hA5 hB5 => ?_⟩
    rw [ht5] at hres
    dsimp only [Except.bind] at hres
    have k15 := Keep.trans k14 k5
    have hbn5 : H5 bn = some (.tup (vN wn)) := kept k5 hR4 hbn4 fun v i z => by cases z
    walk_at "go"
    refine ⟨r, dx, tx, t, rest5, 0, 100, rfl, hR5, hlen, fun q' k hk => FE.of (hf q' k (by rw [← hres, hk] <;> rfl)) k15 (fun _ z => z), fun ch rest6 H6 hch k6 hR6 => ?_⟩
    rw [hch] at hres
    dsimp only [Except.bind] at hres
    have k16 := Keep.trans k15 k6
    have hbn6 : H6 bn = some (.tup (vN wn)) := kept k6 hR5 hbn5 fun v i z => by cases z
    obtain ⟨i6, v6, h6⟩ := hR6.at_
    have hr6 := h6.hr
    dsimp only [gName]
    refine joinS (fun σ' H' => σ' = [some (.ref r), some (.ref a), some (.ref x), some (.ref bn), some (.int (c : Nat)), some (.int (ch : Nat)), some (.int (-1)), none] ∧ H' = H6) (fun Nx h => h _ _ ⟨rfl, rfl⟩) ?_
    rintro σ' H' ⟨rfl, rfl⟩
    refine joinS (fun σ' H'' => ∃ (gr : Option Nat) (ts7 : Vatsld.Toks), σ' = [some (.ref r), some (.ref a), some (.ref x), some (.ref bn), some (.int (c : Nat)), some (.int (ch : Nat)), some (.int (gI gr)), none] ∧ rIn p rest6 = .ok (gr, ts7) ∧ Keep [r] H H'' ∧ Rds K H'' r dx tx t ts7 ∧ H'' bn = some (.tup (vN wn))) ?_ ?_
    · intro Nx hNx
      walk_at "go"
      refine ⟨r, dx, tx, t, rest6, .in_, rfl, hR6, hlen, fun q' k hk => FE.of (hf q' k (by rw [← hres]; unfold rIn; rw [hk] <;> rfl)) k16 (fun _ z => z), fun b7 H7 hb7 k7 hR7 => ?_⟩
      have k17 := Keep.trans k16 k7
      have hbn7 : H7 bn = some (.tup (vN wn)) := kept k7 hR6 hbn6 fun v i z => by cases z
      obtain ⟨i7, v7, h7⟩ := hR7.at_
      have hr7 := h7.hr
      walk_at "go"
      cases b7 with
      | false => exact hNx _ _ ⟨none, rest6, rfl, by unfold rIn; rw [hb7] <;> rfl, k17, hR7, hbn7⟩
      | true =>
        walk_at "go"
        refine ⟨r, dx, tx, t, rest6, .in_, rfl, by decide, hR7, hlen, fun q' k hk => FE.of (hf q' k (by rw [← hres]; unfold rIn; rw [hb7]; dsimp only [Except.bind]; rw [if_pos rfl, hk])) k17 (fun _ z => z), fun x8 p8 tok8 bs8 rest8 H8 ht8 k8 hR8 hA8 hB8 => ?_⟩
        have k18 := Keep.trans k17 k8
        obtain ⟨i8, v8, h8⟩ := hR8.at_
        have hr8 := h8.hr
        have hp8 := hp.kept k18 hR
        obtain ⟨dp8, hpa8⟩ := hp8.at_
        have hin8 : rIn p rest6 = (rKnown (gNames p) rest8).bind fun g => .ok (some g.1.2, g.2) := by
          unfold rIn
          rw [hb7]
          dsimp only [Except.bind]
          rw [if_pos rfl, ht8]
        walk_at "go"
        refine ⟨r, dx, tx, t, rest8, .name, rfl, by decide, hR8, hlen, fun q' k hk => FE.of (hf q' k (by rw [← hres, hin8]; unfold rKnown; rw [hk] <;> rfl)) k18 (fun _ z => z), fun x9 p9 tok9 bs9 rest9 H9 ht9 k9 hR9 hA9 hB9 => ?_⟩
        obtain ⟨nm, hnm, _⟩ := take_name ht9 hR8.sgn
        dsimp only at hnm
        subst hnm
        have hB9 : bs9 = nm := hB9
        subst hB9
        have k19 := Keep.trans k18 k9
        have hp9 := hp.kept k19 hR
        refine ⟨g, x9, gs, gNames p, _, bs9, p9, rfl, hp9.hg, hp9.gn T, hA9, by rw [hp9.lenG]; omega, fun hno => FE.of (hf p9 7 (by rw [← hres, hin8]; unfold rKnown; rw [ht9]; dsimp only [Except.bind]; rw [hno])) k19 (fun _ z => nomatch z), fun i H10 hi e10 => ?_⟩
        exact hNx _ _ ⟨some i, rest9, rfl, by rw [hin8]; unfold rKnown; rw [ht9]; dsimp only [Except.bind]; rw [hi], Keep.trans k19 (Keep.of e10), hR9.same e10, e10 _ _ (kept k9 hR8 (kept k8 hR7 hbn7 fun v i z => (by cases z)) fun v i z => by cases z)⟩
    · rintro σ' H7 ⟨gr, ts7, rfl, hin, k17, hR7, hbn7⟩
      rw [hin] at hres
      dsimp only [Except.bind] at hres
      obtain ⟨i7, v7, h7⟩ := hR7.at_
      have hr7 := h7.hr
      refine joinS (fun σ' H'' => ∃ (l : List Nat) (ts8 : Vatsld.Toks) (bb : Addr), σ' = [some (.ref r), some (.ref a), some (.ref x), some (.ref bn), some (.int (c : Nat)), some (.int (ch : Nat)), some (.int (gI gr)), some (.ref bb)] ∧ rAfter p ts7 = .ok (l, ts8) ∧ Keep [r] H H'' ∧ Rds K H'' r dx tx t ts8 ∧ H'' bb = some (.lst (vN l)) ∧ H bb = none ∧ H'' bn = some (.tup (vN wn))) ?_ ?_
      · intro Nx hNx
        walk_at "go"
        refine ⟨r, dx, tx, t, ts7, .after_, rfl, hR7, hlen, fun q' k hk => FE.of (hf q' k (by rw [← hres]; unfold rAfter; rw [hk] <;> rfl)) k17 (fun _ z => z), fun b8 H8 hb8 k8 hR8 => ?_⟩
        have k18 := Keep.trans k17 k8
        have hbn8' : H8 bn = some (.tup (vN wn)) := kept k8 hR7 hbn7 fun v i z => by cases z
        obtain ⟨i8, v8, h8⟩ := hR8.at_
        walk_at "go"
        cases b8 with
        | false =>
          walk_at "go"
          refine ⟨Nat.zero_le _, fun bb hbb => ?_⟩
          have hbH : H bb = none := Keep.back k18 h8.hr hbb
          exact hNx _ _ ⟨[], ts7, bb, rfl, by unfold rAfter; rw [hb8] <;> rfl, Keep.trans k18 (Keep.of (Same.new hbb)), hR8.same (Same.new hbb), upd_same, hbH, Same.new hbb _ _ hbn8'⟩
        | true =>
          walk_at "go"
          refine ⟨r, dx, tx, t, ts7, a, g, tl, gs, js, p, rfl, hR8, hlen, hp.kept k18 hR, hj7, fun q' k hk => FE.of (hf q' k (by rw [← hres]; unfold rAfter; rw [hb8]; dsimp only [Except.bind]; rw [if_pos rfl, hk])) k18 (fun _ z => z), fun l ts9 bb H9 hl k9 hR9 hb9 hn9 => ?_⟩
          exact hNx _ _ ⟨l, ts9, bb, rfl, by unfold rAfter; rw [hb8]; dsimp only [Except.bind]; rw [if_pos rfl, hl], Keep.trans k18 k9, hR9, hb9, Keep.back k18 h8.hr hn9, kept k9 hR8 hbn8' fun v i z => by cases z⟩
      · rintro σ' H8 ⟨l, ts8, bb, rfl, haf, k18, hR8, hb8, hbn8, hbnn⟩
        rw [haf] at hres
        dsimp only [Except.bind] at hres
        obtain ⟨i8, v8, h8⟩ := hR8.at_
        have hr8 := h8.hr
        walk_at "go"
        refine ⟨r, dx, tx, t, ts8, .semi, rfl, by decide, hR8, hlen, fun q' k hk => FE.of (hf q' k (by rw [← hres, hk] <;> rfl)) k18 (fun _ z => z), fun x9 p9 tok9 bs9 rest9 H9 ht9 k9 hR9 hA9 hB9 => ?_⟩
        rw [ht9] at hres
        dsimp only [Except.bind] at hres
        have k19 := Keep.trans k18 k9
        have hp9 := hp.kept k19 hR
        have hb9 : H9 bb = some (.lst (vN l)) := kept k9 hR8 hb8 fun v i z => by cases z
        have hbn9 : H9 bn = some (.tup (vN wn)) := kept k9 hR8 hbnn fun v i z => by cases z
        obtain ⟨dp9, hpa9⟩ := hp9.at_
        walk_at "go"
        refine ⟨.inl ⟨rfl, _, SqL.of hp9.ht⟩, ?_⟩
        walk_at "go"
        intro xg dxg hxg hdg hne
        refine ⟨xg, dxg, _, _, _, _, _, rfl, upd_same, fun H10 ⟨d10, e101⟩ e102 => ⟨rfl, ?_⟩⟩
        have e10 := Same.made hxg hdg e102
        have hp10 := hp9.same e10
        have hR10 := hR9.same e10
        refine ⟨_, _, _, rfl, rfl, hp10.ht, ?_, ?_⟩
        · rw [List.length_map, hp10.lenT, sizeLine_eq]
          omega
        · refine q _ _ _ _ hres.symm ?_ (hR10.mut hp10.ht htlx) (hp10.moreT ⟨d10, bn, bb, e101, e10 _ _ hbn9, e10 _ _ hb9, ?_, ?_⟩)
          · exact Keep.upd (Keep.trans (Keep.mono k19 fun b hb => (by
              rw [List.mem_singleton] at hb
              rw [hb]
              exact List.mem_cons_self ..)) (Keep.of e10)) (.inl (by simp))
          · exact (ne_of_none hp.hg hbn8).symm
          · exact (ne_of_none hp.ht hbn8).symm
end
end
section
local macro_rules | `(tactic| walk_at "v") => `(tactic| refine ⟨_, rfl, ?_⟩)
local macro_rules | `(tactic| walk_at "ii") => `(tactic| refine ⟨_, _, rfl, rfl, ?_⟩)
local macro_rules | `(tactic| walk_at "no") => `(tactic| first | exact n_Plan_groups ‹_› | exact n_Plan_tests ‹_› | exact n_Group_name ‹_› | exact n_Group_cost ‹_› | exact n_Test_name ‹_› | exact n_Test_cost ‹_› | exact n_Test_chance ‹_› | exact n_Test_group ‹_› | exact n_Test_behind ‹_› | exact n_Token_mark ‹_› | exact n_Token_some ‹_› | exact n_Token_place ‹_› | exact n_Reader_text ‹_› | exact n_Reader_at ‹_› | exact n_Reader_seen ‹_› | exact n_Search_plan ‹_› | exact n_Search_known ‹_› | exact n_Desk_plan ‹_›)
local macro_rules | `(tactic| walk_at "cl") => `(tactic| first | exact c_Plan ‹_› | exact c_Test ‹_› | exact c_Group ‹_› | exact c_Token ‹_› | exact c_Reader ‹_› | exact c_Search ‹_› | exact c_Desk ‹_›)
local macro_rules | `(tactic| walk_at "f") => `(tactic| (refine ⟨_, _, _, _, _, rfl, by first | assumption | exact upd_same, ?cl, ?no, rfl, ?_⟩; (case cl => walk_at "cl"); (case no => walk_at "no")))
local macro_rules | `(tactic| walk_at "m") => `(tactic| refine ⟨_, _, _, rfl, by first | assumption | exact upd_same, rfl, ?_⟩)
local macro_rules | `(tactic| walk_at "go") => `(tactic| repeat (first | walk_at "v" | walk_at "ii" | walk_at "f" | walk_at "m"))
local macro_rules | `(tactic| walk_at "s") => `(tactic| (refine ⟨_, _, _, _, rfl, by first | assumption | exact upd_same, ?cl, ?no, of_decide_eq_true rfl, ?_⟩; (case cl => walk_at "cl"); (case no => walk_at "no")))
abbrev N_read_plan : List Str := ["text", "reader", "plan"]
theorem sc_read_plan : FnScope N_read_plan ["text"] (defScope s_read_plan) := C8.fnScope_by (by decide +kernel)
section
variable {P : Program} {w : World} {K : PySem.W.Frag} {mg : Str → Option Value} {base : Heap}
theorem group_more {p p' : Vatsld.Plan} {ts rest : Vatsld.Toks} (h : rGroup p ts = .ok (p', rest)) (h3 : p.groups.length ≤ 3) : p'.groups.length = p.groups.length + 1 ∧ p'.jobs = p.jobs ∧ p'.groups.length ≤ 3 := by
  unfold rGroup at h
  cases h1 : takeM .group ts with
  | error e => rw [h1] at h; cases h
  | ok x =>
    rw [h1] at h
    dsimp only [Except.bind] at h
    by_cases h0 : p.groups.length = 3
    · rw [if_pos h0] at h; cases h
    · rw [if_neg h0] at h
      cases h2 : rNew (gNames p) x.2 with
      | error e => rw [h2] at h; cases h
      | ok y =>
        rw [h2] at h
        dsimp only at h
        cases h4 : rNum y.2 with
        | error e => rw [h4] at h; cases h
        | ok z =>
          rw [h4] at h
          dsimp only at h
          cases h5 : takeM .semi z.2 with
          | error e => rw [h5] at h; cases h
          | ok u =>
            rw [h5] at h
            cases h
            refine ⟨?_, rfl, ?_⟩
            · show (p.groups ++ [_]).length = _
              rw [List.length_append] <;> rfl
            · show (p.groups ++ [_]).length ≤ _
              rw [List.length_append, List.length_singleton]
              omega
theorem test_more {p p' : Vatsld.Plan} {ts rest : Vatsld.Toks} (h : rTest p ts = .ok (p', rest)) (h7 : p.jobs.length ≤ 7) : p'.jobs.length = p.jobs.length + 1 ∧ p'.groups = p.groups ∧ p'.jobs.length ≤ 7 := by
  unfold rTest at h
  cases h1 : takeM .test ts with
  | error e => rw [h1] at h; cases h
  | ok x =>
    rw [h1] at h
    dsimp only [Except.bind] at h
    by_cases h0 : p.jobs.length = 7
    · rw [if_pos h0] at h; cases h
    · rw [if_neg h0] at h
      cases h2 : rNew (jNames p) x.2 with
      | error e => rw [h2] at h; cases h
      | ok y =>
      rw [h2] at h
      dsimp only at h
      cases h3 : takeM .cost y.2 with
      | error e => rw [h3] at h; cases h
      | ok z =>
      rw [h3] at h
      dsimp only at h
      cases h4 : rRight 1 1000 z.2 with
      | error e => rw [h4] at h; cases h
      | ok c =>
      rw [h4] at h
      dsimp only at h
      cases h5 : takeM .chance c.2 with
      | error e => rw [h5] at h; cases h
      | ok d =>
      rw [h5] at h
      dsimp only at h
      cases h6 : rRight 0 100 d.2 with
      | error e => rw [h6] at h; cases h
      | ok f =>
      rw [h6] at h
      dsimp only at h
      cases h7 : rIn p f.2 with
      | error e => rw [h7] at h; cases h
      | ok g =>
      rw [h7] at h
      dsimp only at h
      cases h8 : rAfter p g.2 with
      | error e => rw [h8] at h; cases h
      | ok k =>
      rw [h8] at h
      dsimp only at h
      cases h9 : takeM .semi k.2 with
      | error e => rw [h9] at h; cases h
      | ok u =>
      rw [h9] at h
      cases h
      refine ⟨?_, rfl, ?_⟩
      · show (p.jobs ++ [_]).length = _
        rw [List.length_append] <;> rfl
      · show (p.jobs ++ [_]).length ≤ _
        rw [List.length_append, List.length_singleton]
        omega
def sp_read_plan (K : PySem.W.Frag) : Sp := fun vs H Q E => ∃ (tx : Addr) (t : List Nat), vs = [.ref tx] ∧ H tx = some (.lst (vN t)) ∧ t.length ≤ 100000 ∧
  (∀ q k, rPlan t = .error (k, q) → FE K [] E k q H) ∧ ∀ p a H', rPlan t = .ok p → Same H H' → PlanAt K H' a p → Q (.ref a) H'
theorem cal_read_plan (T : Tx K mg) : Cal P w K mg base 9 "read_plan" (sp_read_plan K) := by
  have c_Reader := mak_Reader (P := P) (w := w) (base := base) T
  have c_Plan := mak_Plan (P := P) (w := w) (base := base) T
  have c_Reader_is_now := met_is_now (P := P) (w := w) (base := base) T
  have c_read_group := cal_read_group (P := P) (w := w) (base := base) T
  have c_read_test := cal_read_test (P := P) (w := w) (base := base) T
  obtain ⟨fd, F⟩ := T.def_ 36 (d := d_read_plan) rfl
  refine cal_of F (g_read_plan T) sc_read_plan (fun _ _ _ _ _ _ us hl => match us, hl with | [_], _ => rfl) (fun vs H Q E h => ?_) fun cdv A outer s H vs Q E hr h => ⟨_, (pss_cons (ps_set (i := 1) sc_read_plan.nd rfl (Or.inl rfl) (pe_mk c_Reader hr (by decide) passL (pa_cons (pv 0) pa_nil)))
    (pss_cons (ps_set (i := 2) sc_read_plan.nd rfl (Or.inl rfl) (pe_mk0 c_Plan hr (by decide) passL))
    (pss_cons (ps_while (passes_of rfl) (pt_not (pt_val (pe_mt c_Reader_is_now hr (by decide) (passes_call (takes_of rfl rfl rfl rfl) fun _ _ _ _ z => z) (pv 1) (pa_cons (pe_gs (s_END T)) pa_nil)))) (pss_one (ps_if (pt_val (pe_mt c_Reader_is_now hr (by decide) (passes_call (takes_of rfl rfl rfl rfl) fun _ _ _ _ z => z) (pv 1) (pa_cons pe_str pa_nil))) (pss_one (ps_expr (pe_c c_read_group hr (by decide) (passes_call (takes_of rfl rfl rfl rfl) fun _ _ _ _ z => z) (pa_cons (pv 1) (pa_cons (pv 2) pa_nil))))) (pss_one (ps_expr (pe_c c_read_test hr (by decide) (passes_call (takes_of rfl rfl rfl rfl) fun _ _ _ _ z => z) (pa_cons (pv 1) (pa_cons (pv 2) pa_nil))))))))
    (pss_one (ps_ret (pv 2)))))), ?_⟩
  · obtain ⟨tx, t, rfl, _⟩ := h
    rfl
  obtain ⟨tx, t, rfl, htx, hlen, hf, q⟩ := h
  obtain ⟨res, hres⟩ : ∃ res, rPlan t = res := ⟨_, rfl⟩
  rw [hres] at hf q
  unfold rPlan at hres
  walk_at "go"
  intro r dr hnr hdr hne
  refine ⟨r, dr, tx, rfl, upd_same, fun H1 ⟨d1, e11⟩ e12 => ⟨rfl, ?_⟩⟩
  have e1 := Same.made hnr hdr e12
  have hR1 : Rds K H1 r d1 tx t (toksAt t 0) := .inl ⟨0, ⟨e11, e1 _ _ htx, Nat.zero_le _⟩, rfl⟩
  dsimp only [gName]
  walk_at "go"
  intro a da hna hda hne2
  refine ⟨a, da, rfl, upd_same, fun H2 g tl hp2 e22 hng hnt hga hta => ⟨rfl, ?_⟩⟩
  have e2 := Same.made hna hda e22
  have hng1 : H1 g = none := by
    rw [upd_ne hga] at hng
    by_cases z : g = da
    · rw [z, upd_same] at hng; cases hng
    · rw [upd_ne z] at hng
      exact hng
  have hnt1 : H1 tl = none := by
    rw [upd_ne hta] at hnt
    by_cases z : tl = da
    · rw [z, upd_same] at hnt; cases hnt
    · rw [upd_ne z] at hnt
      exact hnt
  have hgH := Same.free e1 hng1
  have htH := Same.free e1 hnt1
  have hgtx : g ≠ tx := (ne_of_none htx hgH).symm
  have httx : tl ≠ tx := (ne_of_none htx htH).symm
  have hnew : ∀ b ∈ [r], H b = none := fun b hb => by
    rw [List.mem_singleton] at hb
    rw [hb]
    exact hnr
  dsimp only [gName]
  refine while_to (fun σ H' => σ = [some (.ref tx), some (.ref r), some (.ref a)] ∧ Same H H' ∧ ∃ (gs js : List Addr) (p : Vatsld.Plan) (ts : Vatsld.Toks), Rds K H' r d1 tx t ts ∧ PlanL K H' a g tl gs js p ∧ rItems (11 - (p.groups.length + p.jobs.length)) p ts = res ∧ p.groups.length ≤ 3 ∧ p.jobs.length ≤ 7)
    (fun σ H' => σ = [some (.ref tx), some (.ref r), some (.ref a)] ∧ Same H H' ∧ ∃ p : Vatsld.Plan, PlanAt K H' a p ∧ res = .ok p) (fun _ H' => match H' g, H' tl with
      | some (.lst xs), some (.lst ys) => 11 - (xs.length + ys.length)
      | _, _ => 0) ⟨rfl, Same.trans e1 e2, [], [], _, _, hR1.same e2, hp2, hres, by decide, by decide⟩ ?_ ?_
  · rintro Nx hNx σ H3 ⟨rfl, e3, gs, js, p, ts, hR3, hp3, hres3, hg3, hj7⟩
    obtain ⟨i3, v3, h3⟩ := hR3.at_
    have hr3 := h3.hr
    obtain ⟨fu, hfu⟩ : ∃ fu, 11 - (p.groups.length + p.jobs.length) = fu + 1 := ⟨10 - (p.groups.length + p.jobs.length), by omega⟩
    rw [hfu] at hres3
    unfold rItems at hres3
    walk_at "go"
    refine ⟨r, d1, tx, t, ts, .over, rfl, hR3, hlen, fun q' k hk => FE.new (hf q' k (by rw [← hres3, hk] <;> rfl)) e3 hnew, fun b4 H4 hb4 k4 hR4 => ?_⟩
    rw [hb4] at hres3
    dsimp only [Except.bind] at hres3
    have e4 := Keep.same e3 k4 hnew
    have hp4 := hp3.kept k4 hR3
    obtain ⟨i4, v4, h4⟩ := hR4.at_
    have hr4 := h4.hr
    walk_at "go"
    cases b4 with
    | true =>
      rw [if_pos rfl] at hres3
      exact hNx _ _ ⟨rfl, e4, p, ⟨g, tl, gs, js, hp4⟩, hres3.symm⟩
    | false =>
      rw [if_neg (by decide)] at hres3
      refine turn ?_
      walk_at "go"
      refine ⟨r, d1, tx, t, ts, .group, rfl, hR4, hlen, fun q' k hk => FE.new (hf q' k (by rw [← hres3, hk] <;> rfl)) e4 hnew, fun b5 H5 hb5 k5 hR5 => ?_⟩
      rw [hb5] at hres3
      dsimp only [Except.bind] at hres3
      have e5 := Keep.same e4 k5 hnew
      have hp5 := hp4.kept k5 hR4
      walk_at "go"
      cases b5 with
      | true =>
        rw [if_pos rfl] at hres3
        walk_at "go"
        refine ⟨r, d1, tx, t, ts, a, g, tl, gs, js, p, rfl, hR5, hlen, hp5, hg3, hgtx, fun q' k hk => FE.new (hf q' k (by rw [← hres3, hk] <;> rfl)) e5 hnew, fun p6 rest6 gs6 H6 hok k6 hR6 hp6 => ?_⟩
        rw [hok] at hres3
        dsimp only at hres3
        obtain ⟨m1, m2, m3⟩ := group_more hok hg3
        refine ⟨⟨rfl, Keep.same e5 k6 (fun b hb => ?_), gs6, js, p6, rest6, hR6, hp6, ?_, m3, by rw [m2]; exact hj7⟩, ?_⟩
        · rcases List.mem_cons.mp hb with rfl | hb
          · exact hnr
          · rw [List.mem_singleton] at hb
            rw [hb]
            exact hgH
        · rw [m1, m2, show 11 - (p.groups.length + 1 + p.jobs.length) = fu by omega]
          exact hres3
        · dsimp only
          rw [hp6.hg, hp6.ht, hp3.hg, hp3.ht]
          dsimp only
          rw [List.length_map, List.length_map, List.length_map, hp6.lenG, hp3.lenG, m1, hp3.lenT]
          omega
      | false =>
        rw [if_neg (by decide)] at hres3
        walk_at "go"
        refine ⟨r, d1, tx, t, ts, a, g, tl, gs, js, p, rfl, hR5, hlen, hp5, hg3, hj7, httx, fun q' k hk => FE.new (hf q' k (by rw [← hres3, hk] <;> rfl)) e5 hnew, fun p6 rest6 js6 H6 hok k6 hR6 hp6 => ?_⟩
        rw [hok] at hres3
        dsimp only at hres3
        obtain ⟨m1, m2, m3⟩ := test_more hok hj7
        refine ⟨⟨rfl, Keep.same e5 k6 (fun b hb => ?_), gs, js6, p6, rest6, hR6, hp6, ?_, by rw [m2]; exact hg3, m3⟩, ?_⟩
        · rcases List.mem_cons.mp hb with rfl | hb
          · exact hnr
          · rw [List.mem_singleton] at hb
            rw [hb]
            exact htH
        · rw [m1, m2, show 11 - (p.groups.length + (p.jobs.length + 1)) = fu by omega]
          exact hres3
        · dsimp only
          rw [hp6.hg, hp6.ht, hp3.hg, hp3.ht]
          dsimp only
          rw [List.length_map, List.length_map, List.length_map, hp6.lenT, hp3.lenG, m1, hp3.lenT]
          omega
  · rintro σ H3 ⟨rfl, e3, p, hp, hok⟩
    walk_at "go"
    exact q p a H3 hok e3 hp
end
end
section
local macro_rules | `(tactic| walk_at "v") => `(tactic| refine ⟨_, rfl, ?_⟩)
local macro_rules | `(tactic| walk_at "ii") => `(tactic| refine ⟨_, _, rfl, rfl, ?_⟩)
local macro_rules | `(tactic| walk_at "no") => `(tactic| first | exact n_Plan_groups ‹_› | exact n_Plan_tests ‹_› | exact n_Group_name ‹_› | exact n_Group_cost ‹_› | exact n_Test_name ‹_› | exact n_Test_cost ‹_› | exact n_Test_chance ‹_› | exact n_Test_group ‹_› | exact n_Test_behind ‹_› | exact n_Token_mark ‹_› | exact n_Token_some ‹_› | exact n_Token_place ‹_› | exact n_Reader_text ‹_› | exact n_Reader_at ‹_› | exact n_Reader_seen ‹_› | exact n_Search_plan ‹_› | exact n_Search_known ‹_› | exact n_Desk_plan ‹_›)
local macro_rules | `(tactic| walk_at "cl") => `(tactic| first | exact c_Plan ‹_› | exact c_Test ‹_› | exact c_Group ‹_› | exact c_Token ‹_› | exact c_Reader ‹_› | exact c_Search ‹_› | exact c_Desk ‹_›)
local macro_rules | `(tactic| walk_at "f") => `(tactic| (refine ⟨_, _, _, _, _, rfl, by first | assumption | exact upd_same, ?cl, ?no, rfl, ?_⟩; (case cl => walk_at "cl"); (case no => walk_at "no")))
local macro_rules | `(tactic| walk_at "m") => `(tactic| refine ⟨_, _, _, rfl, by first | assumption | exact upd_same, rfl, ?_⟩)
local macro_rules | `(tactic| walk_at "go") => `(tactic| repeat (first | walk_at "v" | walk_at "ii" | walk_at "f" | walk_at "m"))
local macro_rules | `(tactic| walk_at "s") => `(tactic| (refine ⟨_, _, _, _, rfl, by first | assumption | exact upd_same, ?cl, ?no, of_decide_eq_true rfl, ?_⟩; (case cl => walk_at "cl"); (case no => walk_at "no")))
abbrev N_Plan_setup : List Str := ["self", "group"]
theorem sc_Plan_setup : FnScope N_Plan_setup ["self", "group"] (defScope s_Plan_setup) := C8.fnScope_by (by decide +kernel)
abbrev N_Plan_cost_of : List Str := ["self", "numbers", "found", "number", "group"]
theorem sc_Plan_cost_of : FnScope N_Plan_cost_of ["self", "numbers"] (defScope s_Plan_cost_of) := C8.fnScope_by (by decide +kernel)
abbrev N_Plan_is_closed : List Str := ["self", "numbers", "number", "own"]
theorem sc_Plan_is_closed : FnScope N_Plan_is_closed ["self", "numbers"] (defScope s_Plan_is_closed) := C8.fnScope_by (by decide +kernel)
abbrev N_Plan_missed : List Str := ["self", "numbers", "found", "number", "test"]
theorem sc_Plan_missed : FnScope N_Plan_missed ["self", "numbers"] (defScope s_Plan_missed) := C8.fnScope_by (by decide +kernel)
theorem gI_eq (g : Option Nat) : gI g = gInt g := by cases g <;> rfl
section
variable {P : Program} {w : World} {K : PySem.W.Frag} {mg : Str → Option Value} {base : Heap}
def sp_setup (K : PySem.W.Frag) : Sp := fun vs H Q _ => ∃ (a : Addr) (p : Vatsld.Plan) (k : Int), vs = [.ref a, .int k] ∧ PlanAt K H a p ∧ (k = -1 ∨ 0 ≤ k ∧ k < p.groups.length) ∧ Q (.int (setupI p k : Nat)) H
theorem met_setup (T : Tx K mg) : Met P w K mg base 1 "Plan" "setup" (sp_setup K) := by
  obtain ⟨fd, F⟩ := T.def_ 26 (d := d_Plan_setup) rfl
  refine met_of F (c_Plan T) (m_Plan_setup T) sc_Plan_setup (fun _ _ _ _ _ _ us hl => match us, hl with | [_, _], _ => rfl) (fun vs H Q E h => ?_) fun cdv A outer s H vs Q E hr h => ⟨_, (pss_one (ps_ret (pe_ifExp (pt_cmpR op_eq (pv 1) (pe_gi (i_NO_GROUP T)) (nomark _)) pe_int (pe_fld (pe_ix ix_list (pe_fld (pv 0) rfl) (pv 1) (fun _ _ => rfl)) rfl)))), ?_⟩
  · obtain ⟨a, p, k, rfl, _⟩ := h
    rfl
  obtain ⟨a, p, k, rfl, ⟨g, tl, gs, js, hp⟩, hk, q⟩ := h
  walk_at "go"
  refine ⟨rfl, ?_⟩
  walk_at "go"
  rw [dec_int]
  rcases hk with rfl | ⟨h0, h1⟩
  · walk_at "go"
    exact q
  · obtain ⟨dp, hpa⟩ := hp.at_
    have hne : (k == -1) = false := by
      rw [beq_eq_false_iff_ne]
      omega
    have hlt : k.toNat < p.groups.length := by omega
    obtain ⟨y, hy⟩ : ∃ y, p.groups[k.toNat]? = some y := ⟨_, List.getElem?_eq_getElem hlt⟩
    obtain ⟨xg, hxg, d, nm, h2, h3⟩ := hp.group hy
    unfold setupI at q
    rw [if_neg (by omega), hy] at q
    rw [hne]
    walk_at "go"
    refine ⟨_, _, _, _, rfl, rfl, SqL.of hp.hg, by rw [show k = ((k.toNat : Nat) : Int) by omega]; exact atI_nat hxg, ?_⟩
    walk_at "go"
    exact q
def sp_cost_of (K : PySem.W.Frag) : Sp := fun vs H Q _ => ∃ (a l : Addr) (p : Vatsld.Plan) (ns : List Nat), vs = [.ref a, .ref l] ∧ PlanAt K H a p ∧ Good p ∧ SqL K H l (vN ns) ∧ (∀ n ∈ ns, n < p.jobs.length) ∧ ns.length ≤ 100000 ∧
  ∀ H', Same H H' → Q (.int (Vatsld.costOf p ns : Nat)) H'
def kvs (ks : List Int) : List (Key × V) := ks.map fun k => (.inl k, .bl true)
theorem put_kvs (ks : List Int) (k : Int) : putK (kvs ks) (.inl k) (.bl true) = kvs (addK ks k) := by
  unfold putK addK
  have e : ((kvs ks).any fun kv => decide (kv.1 = .inl k)) = ks.contains k := by
    unfold kvs
    rw [List.any_map, List.contains_eq_any_beq]
    congr 1
    funext x
    by_cases h : x = k
    · subst h
      simp
    · have h2 : ¬ k = x := fun z => h z.symm
      simp [h, h2]
  rw [e]
  split
  · unfold kvs
    rw [List.map_map]
    refine List.map_congr_left fun x hx => ?_
    dsimp only [Function.comp]
    split <;> rfl
  · unfold kvs
    rw [List.map_append] <;> rfl
/-- a comprehension over a dict's keys -/
theorem lcS_keys {d : Addr} {o : Obj} {xs : List (Key × V)} {g : TG} {tt : TT} {te : TE} {vs : List Nat} {σ : L2.St} {H0 : Hp} {D : Addr} {Qd : Hp → Prop} (R : Nat → List V) (hD : H0 D = none) (hR : R 0 = []) (hl : H0 d = some (.frz o (.dK xs)))
    (hs : ∀ i k v H, xs[i]? = some (k, v) → Acc H0 D (R i) H → g (kV k) (wipe σ vs) H fun σ2 H2 => wipe σ2 vs = wipe σ vs ∧ tt σ2 H2 fun b H3 => if b = true then te σ2 H3 (AddTo H0 D (R (i + 1))) else Acc H0 D (R (i + 1)) H3) (hd : ∀ H, Acc H0 D (R xs.length) H → Qd H) :
    ∃ W : Nat → Nat → Hp → Prop, (∃ m, W 0 m (upd H0 D (.lst []))) ∧ ∀ i m H, W i m H →
      ((Itk d o xs).stop i H ∧ Qd H) ∨ ((Itk d o xs).go i H ∧ ∃ Nx : Hp → Prop, (∀ H', Nx H' → ∃ m', m' < m ∧ W (i + 1) m' H') ∧ ∀ x H', (Itk d o xs).yld i H x H' → g x (wipe σ vs) H' fun σ2 H2 => wipe σ2 vs = wipe σ vs ∧ tt σ2 H2 fun b H3 =>
        if b = true then te σ2 H3 fun y H4 => ∃ acc, H4 D = some (.lst acc) ∧ acc.length < sizeLine ∧ Nx (upd H4 D (.lst (acc ++ [y]))) else Nx H3) := by
  refine ⟨fun i m H => m = xs.length - i ∧ i ≤ xs.length ∧ Acc H0 D (R i) H, ⟨xs.length, by simp, Nat.zero_le _, by rw [hR]; exact Acc.new hD []⟩, ?_⟩
  rintro i m H ⟨rfl, hi, p⟩
  have q := p.1 _ _ hl
  by_cases hlt : i < xs.length
  · refine .inr ⟨⟨q, hlt⟩, fun H' => Acc H0 D (R (i + 1)) H', fun H' p' => ⟨xs.length - (i + 1), by omega, rfl, hlt, p'⟩, fun x H' y => ?_⟩
    obtain ⟨rfl, k, v, hk, rfl⟩ := y
    exact hs i k v _ hk p
  · have e : i = xs.length := by omega
    subst e
    exact .inl ⟨⟨q, Nat.le_refl _⟩, hd H p⟩
theorem met_cost_of (T : Tx K mg) : Met P w K mg base 2 "Plan" "cost_of" (sp_cost_of K) := by
  have c_Plan_setup := met_setup (P := P) (w := w) (base := base) T
  obtain ⟨fd, F⟩ := T.def_ 27 (d := d_Plan_cost_of) rfl
  refine met_of F (c_Plan T) (m_Plan_cost_of T) sc_Plan_cost_of (fun _ _ _ _ _ _ us hl => match us, hl with | [_, _], _ => rfl) (fun vs H Q E h => ?_) fun cdv A outer s H vs Q E hr h => ⟨_, (pss_cons (ps_set (i := 2) sc_Plan_cost_of.nd rfl (Or.inl rfl) pe_dnewK)
    (pss_cons (ps_for (passes_of rfl) rfl (pi_list (pv 1)) (pg_name (i := 3) sc_Plan_cost_of.nd rfl (Or.inl rfl)) (pss_one (ps_dput (hu_of hr) (pv 2) (pe_fld (pe_ix ix_list (pe_fld (pv 0) rfl) (pv 3) (fun _ _ => rfl)) rfl) pe_bl rfl)))
    (pss_one (ps_ret (pe_op op_add (pe_callB (cr_sum rfl) (by rfl) (f_sum T) (by decide +kernel) (by exact (pa_cons (pe_lc (own := [("number", 3)]) rfl sc_Plan_cost_of.nd (pi_list (pv 1)) (blkOk_by (own := [("number", 3)]) (N := N_Plan_cost_of) (sc := defScope s_Plan_cost_of) (by decide +kernel)) (fun _ _ _ _ _ => by exact (pg_name (i := 3) sc_Plan_cost_of.nd rfl (Or.inl rfl))) (fun _ _ _ _ _ => by exact pts_nil) (fun _ _ _ _ _ => by exact (pe_fldK (K := K) rfl (pe_ix (ix_listK (K := K) rfl) (pe_fldK (K := K) rfl (pv 0) rfl) (pv 3) (fun _ _ => rfl)) rfl))) pa_nil))) (pe_callB (cr_sum rfl) (by rfl) (f_sum T) (by decide +kernel) (by exact (pa_cons (pe_lock (pe_lc (own := [("group", 4)]) rfl sc_Plan_cost_of.nd (pi_keys (pv 2)) (blkOk_by (own := [("group", 4)]) (N := N_Plan_cost_of) (sc := defScope s_Plan_cost_of) (by decide +kernel)) (fun _ _ _ _ _ => by exact (pg_name (i := 4) sc_Plan_cost_of.nd rfl (Or.inl rfl))) (fun _ _ _ _ _ => by exact pts_nil) (fun _ _ _ _ _ => by exact (pe_mtK (K := K) rfl c_Plan_setup hr (by decide) passL (pv 0) (pa_cons (pv 4) pa_nil))))) pa_nil)))))))), ?_⟩
  · obtain ⟨a, l, p, ns, rfl, _⟩ := h
    rfl
  obtain ⟨a, l, p, ns, rfl, ⟨g, tl, gs, js, hp⟩, good, hl, hb, hz, q⟩ := h
  walk_at "go"
  intro d hd
  dsimp only [gName]
  walk_at "go"
  refine ⟨⟨_, L2.Same.seq (Same.new hd) hl⟩, for_list (xs := vN ns) (fun i σ H' => (∃ v w, σ = [some (.ref a), some (.ref l), some (.ref d), v, w]) ∧ Same H H' ∧ H' d = some (.dK (kvs (kset p (ns.take i))))) ⟨⟨none, none, rfl⟩, Same.new hd, upd_same⟩ ?_ ?_ ?_⟩
  · rintro i σ H' hi ⟨_, e, _⟩
    exact L2.Same.seq e hl
  · rintro i x σ H1 hx ⟨⟨v, w', rfl⟩, e, hd1⟩
    obtain ⟨n, hn, rfl⟩ := of_vN hx
    have hp1 := hp.same e
    obtain ⟨dp, hpa⟩ := hp1.at_
    have hnl := hb n (List.mem_of_getElem? hn)
    obtain ⟨xt, hxt, dt, nm, bh, h2, h3, h4⟩ := hp1.test (job_get hnl)
    walk_at "go"
    refine ⟨_, _, _, _, rfl, rfl, SqL.of hp1.ht, atI_nat hxt, ?_⟩
    walk_at "go"
    have hks : (kset p (ns.take i)).length ≤ i := by
      have : ∀ l : List Nat, (kset p l).length ≤ l.length := snoc_ind (Nat.le_refl _) fun l x ih => by
        rw [kset_snoc]
        unfold addK
        split
        · rw [List.length_append]
          omega
        · rw [List.length_append, List.length_append, List.length_singleton, List.length_singleton]
          omega
      have z := this (ns.take i)
      rw [List.length_take] at z
      omega
    have hil : i < ns.length := (List.getElem?_eq_some_iff.mp hn).1
    refine ⟨_, _, rfl, DPut.k (k := .inl (gI (Vatsld.jobAt p n).group)) hd1 (by unfold kvs; rw [List.length_map, sizeLine_eq]; omega), ⟨_, _, rfl⟩, Same.mut e hd, ?_⟩
    rw [upd_same, put_kvs, take_more hn, kset_snoc, gI_eq]
  · rintro σ H1 ⟨⟨v, w', rfl⟩, e, hd1⟩
    rw [vN_length, List.take_length] at hd1
    have hp1 := hp.same e
    walk_at "go"
    refine ⟨⟨_, L2.Same.seq e hl⟩, fun D hD => lcS_list (xs := vN ns) (fun k => (ns.take k).map fun n => V.int ((Vatsld.jobAt p n).cost : Nat)) hD rfl (L2.Same.seq e hl) ?_ ?_⟩
    · intro i x H2 hx ac
      obtain ⟨n, hn, rfl⟩ := of_vN hx
      have hp2 := hp1.same ac.1
      obtain ⟨dp, hpa⟩ := hp2.at_
      have hnl := hb n (List.mem_of_getElem? hn)
      obtain ⟨xt, hxt, dt, nm, bh, h2, h3, h4⟩ := hp2.test (job_get hnl)
      have hil : i < ns.length := (List.getElem?_eq_some_iff.mp hn).1
      refine ⟨rfl, ?_⟩
      dsimp only [tYes]
      rw [if_pos rfl]
      walk_at "go"
      refine ⟨_, _, _, _, rfl, rfl, SqL.of hp2.ht, atI_nat hxt, ?_⟩
      walk_at "go"
      exact AddTo.of hD ac (Same.refl _) (by rw [take_more hn, List.map_append] <;> rfl) (by rw [List.length_map, List.length_take, sizeLine_eq]; omega)
    · intro H2 ac
      rw [vN_length, List.take_length] at ac
      refine ⟨D, ns.map fun n => ((Vatsld.jobAt p n).cost : Int), rfl, SqL.of (by rw [ac.2, List.map_map] <;> rfl), ?_⟩
      have e2 := Same.trans e ac.1
      have hd2 := ac.1 _ _ hd1
      refine ⟨d, _, hd2, trivial, fun od => ?_⟩
      have e3 : Same H (upd H2 d (.frz od (.dK (kvs (kset p ns))))) := Same.mut e2 hd
      have hd3 : (upd H2 d (.frz od (.dK (kvs (kset p ns))))) d = some (.frz od (.dK (kvs (kset p ns)))) := upd_same
      generalize upd H2 d (HO.frz od (.dK (kvs (kset p ns)))) = H3 at e3 hd3 ⊢
      walk_at "v"
      refine ⟨d, od, rfl, .inl ⟨_, hd3, fun D2 hD2 => lcS_keys (fun k => ((kset p ns).take k).map fun k => V.int (setupI p k : Nat)) hD2 rfl hd3 ?_ ?_⟩⟩
      · intro i k v' H4 hk ac2
        have hk2 : (kset p ns)[i]? = some (match k with | .inl k => k | .inr _ => 0) ∧ ∃ k', k = .inl k' := by
          unfold kvs at hk
          rw [List.getElem?_map] at hk
          cases e : (kset p ns)[i]? with
          | none => rw [e] at hk; cases hk
          | some y =>
            rw [e] at hk
            cases hk
            exact ⟨rfl, y, rfl⟩
        obtain ⟨hk2, k', rfl⟩ := hk2
        dsimp only at hk2
        have hp4 := hp.same (Same.trans e3 ac2.1)
        obtain ⟨dp, hpa⟩ := hp4.at_
        obtain ⟨n, hn1, hn2⟩ := (mem_kset p k' ns).mp (List.mem_of_getElem? hk2)
        have hv : k' = -1 ∨ 0 ≤ k' ∧ k' < p.groups.length := by
          cases hg : (Vatsld.jobAt p n).group with
          | none =>
            rw [hg] at hn2
            exact .inl hn2.symm
          | some gg =>
            rw [hg] at hn2
            have := (good.job n _ (job_get (hb n hn1))).gr gg hg
            have hn2 : (gg : Int) = k' := hn2
            exact .inr (by omega)
        have hil : i < (kset p ns).length := (List.getElem?_eq_some_iff.mp hk2).1
        have hks : (kset p ns).length ≤ 100000 := by
          have : ∀ l : List Nat, (kset p l).length ≤ l.length := snoc_ind (Nat.le_refl _) fun l x ih => by
            rw [kset_snoc]
            unfold addK
            split
            · rw [List.length_append]
              omega
            · rw [List.length_append, List.length_append, List.length_singleton, List.length_singleton]
              omega
          have := this ns
          omega
        refine ⟨rfl, ?_⟩
        dsimp only [tYes]
        rw [if_pos rfl]
        walk_at "go"
        refine ⟨a, p, k', rfl, ⟨g, tl, gs, js, hp4⟩, hv, ?_⟩
        exact AddTo.of hD2 ac2 (Same.refl _) (by rw [take_more hk2, List.map_append] <;> rfl) (by rw [List.length_map, List.length_take, sizeLine_eq]; omega)
      · intro H4 ac2
        have hkl : (kvs (kset p ns)).length = (kset p ns).length := List.length_map ..
        rw [hkl, List.take_length] at ac2
        refine ⟨ac2.1 _ _ hd3, ?_⟩
        have hDd : D2 ≠ d := (ne_of_none hd3 hD2).symm
        refine ⟨D2, (kset p ns).map fun k => ((setupI p k : Nat) : Int), rfl, SqL.of (by rw [upd_ne hDd, ac2.2, List.map_map] <;> rfl), ?_⟩
        refine ⟨_, _, rfl, rfl, ?_⟩
        have ec : ((Vatsld.costOf p ns : Nat) : Int) = (ns.map fun n => ((Vatsld.jobAt p n).cost : Int)).sum + ((kset p ns).map fun k => ((setupI p k : Nat) : Int)).sum := by
          rw [cost_sum, Int.natCast_add, ← sum_cast, ← sum_cast, List.map_map, List.map_map] <;> rfl
        have z := q _ (Same.mut (o := .dK (kvs (kset p ns))) (Same.trans e3 ac2.1) hd)
        rw [ec] at z
        exact z
def sp_is_closed (K : PySem.W.Frag) : Sp := fun vs H Q _ => ∃ (a l : Addr) (p : Vatsld.Plan) (ns : List Nat), vs = [.ref a, .ref l] ∧ PlanAt K H a p ∧ Good p ∧ SqL K H l (vN ns) ∧ (∀ n ∈ ns, n < p.jobs.length) ∧
  ∀ H', Same H H' → Q (.bl (Vatsld.isClosed p ns)) H'
theorem met_is_closed (T : Tx K mg) : Met P w K mg base 1 "Plan" "is_closed" (sp_is_closed K) := by
  obtain ⟨fd, F⟩ := T.def_ 28 (d := d_Plan_is_closed) rfl
  refine met_of F (c_Plan T) (m_Plan_is_closed T) sc_Plan_is_closed (fun _ _ _ _ _ _ us hl => match us, hl with | [_, _], _ => rfl) (fun vs H Q E h => ?_) fun cdv A outer s H vs Q E hr h => ⟨_, (pss_cons (ps_for (passes_of rfl) rfl (pi_list (pv 1)) (pg_name (i := 2) sc_Plan_is_closed.nd rfl (Or.inl rfl)) (pss_one (ps_if (pt_cmpR (op_neD hr.units) (pe_lc (own := [("own", 3)]) rfl sc_Plan_is_closed.nd (pi_list (pe_fld (pe_ix ix_list (pe_fld (pv 0) rfl) (pv 2) (fun _ _ => rfl)) rfl)) (blkOk_by (own := [("own", 3)]) (N := N_Plan_is_closed) (sc := defScope s_Plan_is_closed) (by decide +kernel)) (fun _ _ _ _ _ => by exact (pg_name (i := 3) sc_Plan_is_closed.nd rfl (Or.inl rfl))) (fun _ _ _ _ _ => by exact (pts_one (pt_cmpR (op_notIn_seqK (K := K) rfl) (pv 3) (pv 1) rfl))) (fun _ _ _ _ _ => by exact (pv 3))) (pe_lst pa_nil) (nomark _)) (pss_one (ps_ret pe_bl)) pss_nil)))
    (pss_one (ps_ret pe_bl))), ?_⟩
  · obtain ⟨a, l, p, ns, rfl, _⟩ := h
    rfl
  obtain ⟨a, l, p, ns, rfl, ⟨g, tl, gs, js, hp⟩, good, hl, hb, q⟩ := h
  walk_at "go"
  refine ⟨⟨_, hl⟩, for_list (xs := vN ns) (fun i σ H' => (∃ v w, σ = [some (.ref a), some (.ref l), v, w]) ∧ Same H H' ∧ ∀ n ∈ ns.take i, (Vatsld.jobAt p n).after_.all ns.contains = true) ⟨⟨none, none, rfl⟩, Same.refl _, fun n hn => by cases hn⟩ ?_ ?_ ?_⟩
  · rintro i σ H' hi ⟨_, e, _⟩
    exact L2.Same.seq e hl
  · rintro i x σ H1 hx ⟨⟨v, w', rfl⟩, e, hall⟩
    obtain ⟨n, hn, rfl⟩ := of_vN hx
    have hp1 := hp.same e
    obtain ⟨dp, hpa⟩ := hp1.at_
    have hnl := hb n (List.mem_of_getElem? hn)
    obtain ⟨xt, hxt, dt, nm, bh, h2, h3, h4⟩ := hp1.test (job_get hnl)
    have jo := good.job n _ (job_get hnl)
    have hal := nodup_len n _ jo.nd jo.af
    have hj7 := good.j7
    dsimp only [gName]
    refine tifS (!(Vatsld.jobAt p n).after_.all ns.contains) (fun R q => ?_) (fun H2 e2 hb => ?_) (fun H2 e2 hb => ?_)
    · walk_at "go"
      refine ⟨_, _, _, _, rfl, rfl, SqL.of hp1.ht, atI_nat hxt, ?_⟩
      walk_at "go"
      refine ⟨⟨_, SqL.of h4⟩, fun D hD => lcS_list (xs := vN (Vatsld.jobAt p n).after_) (fun k => vN (((Vatsld.jobAt p n).after_.take k).filter fun x => !ns.contains x)) hD rfl (SqL.of h4) ?_ ?_⟩
      · intro k y H2 hy ac
        obtain ⟨m, hm, rfl⟩ := of_vN hy
        have hkl : k < (Vatsld.jobAt p n).after_.length := (List.getElem?_eq_some_iff.mp hm).1
        refine ⟨rfl, ?_⟩
        walk_at "go"
        refine ⟨_, _, rfl, .inl (L2.Same.seq (Same.trans e ac.1) hl), rfl, flat_N _, ?_⟩
        walk_at "go"
        rw [if_pos rfl, in_N]
        cases hc : ns.contains m with
        | true =>
          show Acc H1 D _ H2
          rw [take_more hm, List.filter_append, List.filter_cons_of_neg (by rw [hc]; decide), List.filter_nil, List.append_nil]
          exact ac
        | false =>
          walk_at "go"
          refine AddTo.of hD ac (Same.refl _) (by rw [take_more hm, List.filter_append, List.filter_cons_of_pos (by rw [hc]; rfl), vN_append] <;> rfl) ?_
          rw [vN_length, sizeLine_eq]
          have z := List.length_filter_le (fun x => !ns.contains x) ((Vatsld.jobAt p n).after_.take k)
          rw [List.length_take] at z
          omega
      · intro H2 ac
        rw [vN_length, List.take_length] at ac
        walk_at "go"
        refine ⟨Nat.zero_le _, fun p2 hn2 => ?_⟩
        generalize hH3 : upd H2 p2 _ = H3
        obtain ⟨e3, hp2⟩ := new_at hn2 hH3
        refine ⟨_, _, .lst (SqL.of (e3 _ _ ac.2)) (dp_N _), .lst (SqL.of hp2) (dp_N []), shL_N _, shL_N _, ?_⟩
        rw [eqL_N]
        walk_at "go"
        have eb : (!decide ((Vatsld.jobAt p n).after_.filter (fun x => !ns.contains x) = [])) = !(Vatsld.jobAt p n).after_.all ns.contains := by
          congr 1
          rw [Bool.eq_iff_iff, decide_eq_true_iff, List.filter_eq_nil_iff, List.all_eq_true]
          simp
        rw [eb]
        exact q H3 (Same.trans ac.1 e3)
    · walk_at "go"
      have hf : Vatsld.isClosed p ns = false := by
        unfold Vatsld.isClosed
        rw [List.all_eq_false]
        exact ⟨n, List.mem_of_getElem? hn, by rw [Bool.not_eq_true']at hb; rw [hb]; decide⟩
      have z := q H2 (Same.trans e e2)
      rw [hf] at z
      exact z
    · refine ⟨⟨_, _, rfl⟩, Same.trans e e2, fun m hm => ?_⟩
      rw [take_more hn] at hm
      rcases List.mem_append.mp hm with hm | hm
      · exact hall m hm
      · rw [List.mem_singleton] at hm
        rw [hm]
        rw [Bool.not_eq_false'] at hb
        exact hb
  · rintro σ H1 ⟨⟨v, w', rfl⟩, e, hall⟩
    rw [vN_length, List.take_length] at hall
    walk_at "go"
    have ht : Vatsld.isClosed p ns = true := by
      unfold Vatsld.isClosed
      rw [List.all_eq_true]
      exact hall
    have z := q H1 e
    rw [ht] at z
    exact z
def sp_missed (K : PySem.W.Frag) : Sp := fun vs H Q _ => ∃ (a l : Addr) (p : Vatsld.Plan) (ns : List Nat), vs = [.ref a, .ref l] ∧ PlanAt K H a p ∧ Good p ∧ SqL K H l (vN ns) ∧
  ∀ H', Same H H' → Q (.int (Vatsld.missOf p ns : Nat)) H'
theorem met_missed (T : Tx K mg) : Met P w K mg base 1 "Plan" "missed" (sp_missed K) := by
  obtain ⟨fd, F⟩ := T.def_ 29 (d := d_Plan_missed) rfl
  refine met_of F (c_Plan T) (m_Plan_missed T) sc_Plan_missed (fun _ _ _ _ _ _ us hl => match us, hl with | [_, _], _ => rfl) (fun vs H Q E h => ?_) fun cdv A outer s H vs Q E hr h => ⟨_, (pss_cons (ps_set (i := 2) sc_Plan_missed.nd rfl (Or.inl rfl) pe_int)
    (pss_cons (ps_for (passes_of rfl) rfl (pi_enum (by rfl) (f_enumerate T) (pa_cons (pe_fld (pv 0) rfl) pa_nil)) (pg_tupK (K := K) (n := 2) rfl rfl (pgs_cons (pg_name (i := 3) sc_Plan_missed.nd rfl (Or.inl rfl)) (pgs_cons (pg_name (i := 4) sc_Plan_missed.nd rfl (Or.inl rfl)) pgs_nil))) (pss_one (ps_set (i := 2) sc_Plan_missed.nd rfl (Or.inl rfl) (pe_op op_mul (pv 2) (pe_ifExp (pt_cmpR op_in_seq (pv 3) (pv 1) rfl) (pe_op op_sub pe_int (pe_fld (pv 4) rfl)) pe_int)))))
    (pss_one (ps_ret (pv 2))))), ?_⟩
  · obtain ⟨a, l, p, ns, rfl, _⟩ := h
    rfl
  obtain ⟨a, l, p, ns, rfl, ⟨g, tl, gs, js, hp⟩, good, hl, q⟩ := h
  obtain ⟨dp, hpa⟩ := hp.at_
  walk_at "go"
  refine ⟨tl, _, rfl, SqL.of hp.ht, for_enum (xs := js.map V.ref) (fun i σ H' => (∃ v w, σ = [some (.ref a), some (.ref l), some (.int (missUp p ns i : Nat)), v, w]) ∧ Same H H') ⟨⟨none, none, rfl⟩, Same.refl _⟩ ?_ ?_ ?_ ?_⟩
  · rintro i σ H' hi ⟨_, e⟩
    exact SqL.of (e _ _ hp.ht)
  · rintro i σ H1 H2 e2 ⟨h1, e⟩
    exact ⟨h1, Same.trans e e2⟩
  · rintro i x U σ H1 hx ⟨⟨v, w', rfl⟩, e⟩ hU
    obtain ⟨ad, had, rfl⟩ := of_vR hx
    have hil : i < p.jobs.length := by
      rw [← hp.lenT]
      exact (List.getElem?_eq_some_iff.mp had).1
    have hp1 := hp.same e
    obtain ⟨xt, hxt, dt, nm, bh, h2, h3, h4⟩ := hp1.test (job_get hil)
    rw [hx] at hxt
    cases hxt
    have jo := good.job i _ (job_get hil)
    refine ⟨U, _, rfl, .inl (.inl hU), rfl, _, _, rfl, _, _, rfl, rfl, ?_⟩
    walk_at "go"
    refine ⟨_, _, rfl, .inl (L2.Same.seq e hl), rfl, flat_N _, ?_⟩
    walk_at "go"
    rw [if_neg (by decide), in_N]
    have ms := missUp_succ p ns i
    cases hc : ns.contains i with
    | true =>
      rw [hc, if_pos rfl] at ms
      walk_at "go"
      have ch := jo.ch
      refine ⟨.inr ⟨by omega, by omega⟩, ⟨some (.int (i : Nat)), some (.ref ad), ?_⟩, e⟩
      rw [ms, Int.natCast_mul, show ((100 - (Vatsld.jobAt p i).chance : Nat) : Int) = 100 - ((Vatsld.jobAt p i).chance : Int) by omega] <;> rfl
    | false =>
      rw [hc, if_neg (by decide)] at ms
      walk_at "go"
      refine ⟨.inr ⟨by omega, by omega⟩, ⟨some (.int (i : Nat)), some (.ref ad), ?_⟩, e⟩
      rw [ms, Int.natCast_mul] <;> rfl
  · rintro σ H1 ⟨⟨v, w', rfl⟩, e⟩
    walk_at "go"
    rw [List.length_map, hp.lenT, missUp_all]
    exact q H1 e
end
end
section
local macro_rules | `(tactic| walk_at "v") => `(tactic| refine ⟨_, rfl, ?_⟩)
local macro_rules | `(tactic| walk_at "ii") => `(tactic| refine ⟨_, _, rfl, rfl, ?_⟩)
local macro_rules | `(tactic| walk_at "no") => `(tactic| first | exact n_Plan_groups ‹_› | exact n_Plan_tests ‹_› | exact n_Group_name ‹_› | exact n_Group_cost ‹_› | exact n_Test_name ‹_› | exact n_Test_cost ‹_› | exact n_Test_chance ‹_› | exact n_Test_group ‹_› | exact n_Test_behind ‹_› | exact n_Token_mark ‹_› | exact n_Token_some ‹_› | exact n_Token_place ‹_› | exact n_Reader_text ‹_› | exact n_Reader_at ‹_› | exact n_Reader_seen ‹_› | exact n_Search_plan ‹_› | exact n_Search_known ‹_› | exact n_Desk_plan ‹_›)
local macro_rules | `(tactic| walk_at "cl") => `(tactic| first | exact c_Plan ‹_› | exact c_Test ‹_› | exact c_Group ‹_› | exact c_Token ‹_› | exact c_Reader ‹_› | exact c_Search ‹_› | exact c_Desk ‹_›)
local macro_rules | `(tactic| walk_at "f") => `(tactic| (refine ⟨_, _, _, _, _, rfl, by first | assumption | exact upd_same, ?cl, ?no, rfl, ?_⟩; (case cl => walk_at "cl"); (case no => walk_at "no")))
local macro_rules | `(tactic| walk_at "m") => `(tactic| refine ⟨_, _, _, rfl, by first | assumption | exact upd_same, rfl, ?_⟩)
local macro_rules | `(tactic| walk_at "go") => `(tactic| repeat (first | walk_at "v" | walk_at "ii" | walk_at "f" | walk_at "m"))
local macro_rules | `(tactic| walk_at "s") => `(tactic| (refine ⟨_, _, _, _, rfl, by first | assumption | exact upd_same, ?cl, ?no, of_decide_eq_true rfl, ?_⟩; (case cl => walk_at "cl"); (case no => walk_at "no")))
abbrev N_digits_of : List Str := ["number", "found"]
theorem sc_digits_of : FnScope N_digits_of ["number"] (defScope s_digits_of) := C8.fnScope_by (by decide +kernel)
abbrev N_joined : List Str := ["parts", "between", "found", "at", "part"]
theorem sc_joined : FnScope N_joined ["parts", "between"] (defScope s_joined) := C8.fnScope_by (by decide +kernel)
section
variable {P : Program} {w : World} {K : PySem.W.Frag} {mg : Str → Option Value} {base : Heap}
def sp_digits_of : Sp := fun vs H Q _ => ∃ n : Nat, vs = [.int n] ∧ n < 10000 ∧ ∀ b H', Same H H' → H' b = some (.tup (vN (Vatsld.decimal n))) → Q (.ref b) H'
theorem cal_digits_of (T : Tx K mg) : Cal P w K mg base 1 "digits_of" sp_digits_of := by
  obtain ⟨fd, F⟩ := T.def_ 37 (d := d_digits_of) rfl
  refine cal_of F (g_digits_of T) sc_digits_of (fun _ _ _ _ _ _ us hl => match us, hl with | [_], _ => rfl) (fun vs H Q E h => ?_) fun cdv A outer s H vs Q E hr h => ⟨_, (pss_cons (ps_set (i := 1) sc_digits_of.nd rfl (Or.inl rfl) (pe_lst pa_nil))
    (pss_cons (ps_while (passes_of rfl) (PW.pt (pw_or (pt_cmpR op_gt (pv 0) pe_int (nomark _)) (pw_or1 (pt_cmpR (op_eqD hr.units) (pv 1) (pe_lst pa_nil) (nomark _))))) (pss_cons (ps_expr (pe_bm PySem.F.plainAttrs_list PySem.F.slot_list_append PySem.F.type_list_append mt_append (pv 1) (pa_cons (pe_op op_add pe_int (pe_op op_mod (pv 0) pe_int)) pa_nil)))
    (pss_one (ps_set (i := 0) sc_digits_of.nd rfl (Or.inl rfl) (pe_op op_fdiv (pv 0) pe_int)))))
    (pss_cons (ps_expr (pe_bm0 PySem.F.plainAttrs_list PySem.F.slot_list_reverse PySem.F.type_list_reverse mt_reverse (pv 1)))
    (pss_one (ps_ret (pe_callTy call_tuple_of (by rfl) (f_tuple T) (by decide +kernel) (pa_cons (pv 1) pa_nil))))))), ?_⟩
  · obtain ⟨n, rfl, _⟩ := h
    rfl
  obtain ⟨n, rfl, hn, q⟩ := h
  walk_at "go"
  refine ⟨Nat.zero_le _, fun f hf => ?_⟩
  dsimp only [gName]
  refine while_to (fun σ H' => ∃ (m : Nat) (ds : List Nat), σ = [some (.int m), some (.ref f)] ∧ Acc H f (vN ds) H' ∧ m ≤ n ∧ (ds = [] ∧ m = n ∨ ds ≠ [] ∧ Vatsld.decimal n = dec0 m ++ ds.reverse) ∧ ds.length + m ≤ 20000)
    (fun σ H' => (∃ v, σ = [v, some (.ref f)]) ∧ Acc H f (vN (Vatsld.decimal n).reverse) H') (fun σ H' => match σ, H' f with
      | [some (.int m), _], some (.lst xs) => 2 * m.toNat + (if xs = [] then 1 else 0)
      | _, _ => 0) ⟨n, [], rfl, Acc.new hf [], Nat.le_refl _, .inl ⟨rfl, rfl⟩, by simp; omega⟩ ?_ ?_
  · rintro Nx hNx σ H1 ⟨m, ds, rfl, ac, hm, hds, hlen⟩
    have hac := ac.2
    refine torS (decide (0 < m)) (decide (ds = [])) (fun R q => ?_) (fun _ H2 e2 R q => ?_) (fun H2 e2 => ?_)
    · walk_at "go"
      rw [show decide ((0 : Int) < (m : Int)) = decide (0 < m) from decide_eq_decide.mpr (by omega)]
      exact q H1 (Same.refl _)
    · walk_at "go"
      refine ⟨Nat.zero_le _, fun p2 hn2 => ?_⟩
      generalize hH3 : upd H2 p2 _ = H3
      obtain ⟨e3, hp2⟩ := new_at hn2 hH3
      refine ⟨_, _, .lst (SqL.of (e3 _ _ (e2 _ _ hac))) (dp_N _), .lst (SqL.of hp2) (dp_N []), shL_N _, shL_N _, ?_⟩
      rw [eqL_N]
      walk_at "go"
      exact q H3 e3
    · have ac2 := ac.same e2
      cases hc : (decide (0 < m) || decide (ds = [])) with
      | false =>
        rw [Bool.or_eq_false_iff] at hc
        have h1 := of_decide_eq_false hc.1
        have h2 := of_decide_eq_false hc.2
        refine hNx _ _ ⟨⟨_, rfl⟩, ?_⟩
        rcases hds with ⟨h3, _⟩ | ⟨_, h3⟩
        · exact absurd h3 h2
        · unfold dec0 at h3
          rw [if_pos (by omega), List.nil_append] at h3
          rw [h3, List.reverse_reverse]
          exact ac2
      | true =>
        rw [Bool.or_eq_true] at hc
        refine turn ?_
        walk_at "go"
        refine ⟨.inl ⟨rfl, _, SqL.of ac2.2⟩, ?_⟩
        walk_at "go"
        refine ⟨show (0 : Int) < 10 by decide, ?_⟩
        walk_at "go"
        refine ⟨_, _, _, rfl, rfl, ac2.2, by rw [vN_length, sizeLine_eq]; omega, ?_⟩
        walk_at "go"
        refine ⟨⟨by decide, by decide⟩, ?_⟩
        have eA : vN ds ++ [V.int (48 + (m : Int) % 10)] = vN (ds ++ [48 + m % 10]) := by rw [vN_append] <;> rfl
        refine ⟨⟨m / 10, ds ++ [48 + m % 10], rfl, ?_, by omega, .inr ⟨by simp, ?_⟩, ?_⟩, ?_⟩
        · rw [eA]
          exact ac2.put hf _
        · rw [List.reverse_append]
          show Vatsld.decimal n = dec0 (m / 10) ++ ([48 + m % 10] ++ ds.reverse)
          rw [← List.append_assoc, ← decimal_step]
          rcases hds with ⟨h3, h4⟩ | ⟨h3, h4⟩
          · rw [h3, h4, List.reverse_nil, List.append_nil]
          · rw [h4]
            have hm0 : 0 < m := by
              rcases hc with hc | hc
              · exact of_decide_eq_true hc
              · exact absurd (of_decide_eq_true hc) h3
            unfold dec0
            rw [if_neg (by omega)]
        · rw [List.length_append, List.length_singleton]
          have : ds.length + 1 + m / 10 ≤ 20000 ∨ (ds.length + m ≤ 20000 ∧ m = 0) := by
            rcases Nat.eq_zero_or_pos m with h0 | h0
            · exact .inr ⟨hlen, h0⟩
            · left
              omega
          rcases this with h | ⟨h, h0⟩
          · exact h
          · rcases hc with hc | hc
            · have := of_decide_eq_true hc
              omega
            · have := of_decide_eq_true hc
              rw [this]
              simp
              omega
        · dsimp only
          rw [hac, upd_same]
          dsimp only
          rw [eA]
          have hne : vN (ds ++ [48 + m % 10]) ≠ [] := by
            intro z
            have := congrArg List.length z
            rw [vN_length] at this
            simp at this
          show 2 * (m / 10) + (if vN (ds ++ [48 + m % 10]) = [] then 1 else 0) < 2 * m + (if vN ds = [] then 1 else 0)
          rw [if_neg hne]
          rcases hc with hc | hc
          · have := of_decide_eq_true hc
            omega
          · have h5 := of_decide_eq_true hc
            rw [if_pos (by rw [h5]; rfl)]
            omega
  · rintro σ H1 ⟨⟨v, rfl⟩, ac⟩
    have hac := ac.2
    walk_at "go"
    refine ⟨.inl ⟨rfl, _, SqL.of hac⟩, _, _, rfl, rfl, hac, ?_⟩
    have ac2 : Acc H f (vN (Vatsld.decimal n)) (upd H1 f (.lst (vN (Vatsld.decimal n).reverse).reverse)) := by
      have e : (vN (Vatsld.decimal n).reverse).reverse = vN (Vatsld.decimal n) := by
        unfold vN
        rw [← List.map_reverse, List.reverse_reverse]
      rw [e]
      exact ac.put hf _
    generalize upd H1 f (HO.lst (vN (Vatsld.decimal n).reverse).reverse) = H2 at ac2 ⊢
    walk_at "go"
    refine ⟨_, _, rfl, .inl ⟨SqL.of ac2.2, fun b hb => ?_⟩⟩
    exact q b _ (Same.trans ac2.1 (Same.new hb)) upd_same
def sp_joined (K : PySem.W.Frag) : Sp := fun vs H Q _ => ∃ (l b : Addr) (xs : List Addr) (parts : List (List Nat)) (bt : List Nat), vs = [.ref l, .ref b] ∧ H l = some (.lst (xs.map V.ref)) ∧ Paired (fun (x : Addr) (t : List Nat) => H x = some (.tup (vN t))) xs parts ∧ H b = some (.tup (vN bt)) ∧ (joinW bt parts).length ≤ 100000 ∧
  ∀ c H', Same H H' → H' c = some (.tup (vN (joinW bt parts))) → Q (.ref c) H'
theorem cal_joined (T : Tx K mg) : Cal P w K mg base 1 "joined" (sp_joined K) := by
  obtain ⟨fd, F⟩ := T.def_ 38 (d := d_joined) rfl
  refine cal_of F (g_joined T) sc_joined (fun _ _ _ _ _ _ us hl => match us, hl with | [_, _], _ => rfl) (fun vs H Q E h => ?_) fun cdv A outer s H vs Q E hr h => ⟨_, (pss_cons (ps_set (i := 2) sc_joined.nd rfl (Or.inl rfl) (pe_lst pa_nil))
    (pss_cons (ps_for (passes_of rfl) rfl (pi_enum (by rfl) (f_enumerate T) (pa_cons (pv 0) pa_nil)) (pg_tupK (K := K) (n := 2) rfl rfl (pgs_cons (pg_name (i := 3) sc_joined.nd rfl (Or.inl rfl)) (pgs_cons (pg_name (i := 4) sc_joined.nd rfl (Or.inl rfl)) pgs_nil))) (pss_cons (ps_if (pt_cmpR op_gt (pv 3) pe_int (nomark _)) (pss_one (ps_expr (pe_bm PySem.F.plainAttrs_list PySem.F.slot_list_extend PySem.F.type_list_extend mt_extendT (pv 2) (pa_cons (pv 1) pa_nil)))) pss_nil)
    (pss_one (ps_expr (pe_bm PySem.F.plainAttrs_list PySem.F.slot_list_extend PySem.F.type_list_extend mt_extendT (pv 2) (pa_cons (pv 4) pa_nil))))))
    (pss_one (ps_ret (pe_callTy call_tuple_of (by rfl) (f_tuple T) (by decide +kernel) (pa_cons (pv 2) pa_nil)))))), ?_⟩
  · obtain ⟨l, b, xs, parts, bt, rfl, _⟩ := h
    rfl
  obtain ⟨l, b, xs, parts, bt, rfl, hl, hp, hb, hz, q⟩ := h
  have hlen := pair_len hp
  walk_at "go"
  refine ⟨Nat.zero_le _, fun f hf => ?_⟩
  dsimp only [gName]
  walk_at "go"
  have e0 := Same.new (o := .lst []) hf
  refine ⟨l, _, rfl, SqL.of (e0 _ _ hl), for_enum (xs := xs.map V.ref) (fun i σ H' => (∃ v w, σ = [some (.ref l), some (.ref b), some (.ref f), v, w]) ∧ Acc H f (vN (joinW bt (parts.take i))) H') ⟨⟨none, none, rfl⟩, Acc.new hf []⟩ ?_ ?_ ?_ ?_⟩
  · rintro i σ H' hi ⟨_, ac⟩
    exact SqL.of (ac.1 _ _ hl)
  · rintro i σ H1 H2 e2 ⟨h1, ac⟩
    exact ⟨h1, ac.same e2⟩
  · rintro i x U σ H1 hx ⟨⟨v, w', rfl⟩, ac⟩ hU
    obtain ⟨ad, had, rfl⟩ := of_vR hx
    obtain ⟨t, ht, hat⟩ := pair_two hp had
    have hil : i < parts.length := (List.getElem?_eq_some_iff.mp ht).1
    have tk := take_more ht
    have jo := joinW_snoc bt (parts.take i) t
    rw [← tk] at jo
    have jl : (joinW bt (parts.take (i + 1))).length ≤ 100000 := by
      have z := joinW_le bt (parts.drop (i + 1)) (parts.take (i + 1))
      rw [List.take_append_drop] at z
      omega
    rw [jo, List.length_append, List.length_append] at jl
    refine ⟨U, _, rfl, .inl (.inl hU), rfl, _, _, rfl, _, _, rfl, rfl, ?_⟩
    dsimp only [gName]
    refine joinS (fun σ' H' => σ' = [some (.ref l), some (.ref b), some (.ref f), some (.int (i : Nat)), some (.ref ad)] ∧ Acc H f (vN (joinW bt (parts.take i) ++ (if parts.take i = [] then [] else bt))) H') (fun Nx hNx => ?_) ?_
    · refine tif (decide (0 < i)) (fun R q => ?_) (fun hb' => ?_) (fun hb' => ?_)
      · walk_at "go"
        rw [show decide ((0 : Int) < (i : Int)) = decide (0 < i) from decide_eq_decide.mpr (by omega)]
        exact q
      · have hi0 := of_decide_eq_true hb'
        have hne : ¬ parts.take i = [] := by
          intro z
          have := congrArg List.length z
          rw [List.length_take, List.length_nil] at this
          omega
        rw [if_neg hne] at jl
        walk_at "go"
        refine ⟨.inl ⟨rfl, _, SqL.of ac.2⟩, ?_⟩
        walk_at "go"
        refine ⟨_, _, _, _, rfl, rfl, ac.2, .inl (.inl (ac.1 _ _ hb)), by rw [vN_length, vN_length, sizeLine_eq]; omega, ?_⟩
        refine hNx _ _ ⟨rfl, ?_⟩
        rw [if_neg hne, vN_append]
        exact ac.put hf _
      · have hi0 := of_decide_eq_false hb'
        refine hNx _ _ ⟨rfl, ?_⟩
        have he : parts.take i = [] := by
          rw [show i = 0 by omega]
          rfl
        rw [if_pos he, List.append_nil]
        exact ac
    · rintro σ' H2 ⟨rfl, ac2⟩
      walk_at "go"
      refine ⟨.inl ⟨rfl, _, SqL.of ac2.2⟩, ?_⟩
      walk_at "go"
      refine ⟨_, _, _, _, rfl, rfl, ac2.2, .inl (.inl (ac2.1 _ _ hat)), by rw [vN_length, vN_length, List.length_append, sizeLine_eq]; omega, ⟨_, _, rfl⟩, ?_⟩
      rw [jo, ← List.append_assoc, vN_append (l := joinW bt (parts.take i) ++ _)]
      exact ac2.put hf _
  · rintro σ H1 ⟨⟨v, w', rfl⟩, ac⟩
    rw [List.length_map, hlen, List.take_length] at ac
    walk_at "go"
    refine ⟨_, _, rfl, .inl ⟨SqL.of ac.2, fun c hc => ?_⟩⟩
    exact q c _ (Same.trans ac.1 (Same.new hc)) upd_same
end
end
section
local macro_rules | `(tactic| walk_at "v") => `(tactic| refine ⟨_, rfl, ?_⟩)
local macro_rules | `(tactic| walk_at "ii") => `(tactic| refine ⟨_, _, rfl, rfl, ?_⟩)
local macro_rules | `(tactic| walk_at "no") => `(tactic| first | exact n_Plan_groups ‹_› | exact n_Plan_tests ‹_› | exact n_Group_name ‹_› | exact n_Group_cost ‹_› | exact n_Test_name ‹_› | exact n_Test_cost ‹_› | exact n_Test_chance ‹_› | exact n_Test_group ‹_› | exact n_Test_behind ‹_› | exact n_Token_mark ‹_› | exact n_Token_some ‹_› | exact n_Token_place ‹_› | exact n_Reader_text ‹_› | exact n_Reader_at ‹_› | exact n_Reader_seen ‹_› | exact n_Search_plan ‹_› | exact n_Search_known ‹_› | exact n_Desk_plan ‹_›)
local macro_rules | `(tactic| walk_at "cl") => `(tactic| first | exact c_Plan ‹_› | exact c_Test ‹_› | exact c_Group ‹_› | exact c_Token ‹_› | exact c_Reader ‹_› | exact c_Search ‹_› | exact c_Desk ‹_›)
local macro_rules | `(tactic| walk_at "f") => `(tactic| (refine ⟨_, _, _, _, _, rfl, by first | assumption | exact upd_same, ?cl, ?no, rfl, ?_⟩; (case cl => walk_at "cl"); (case no => walk_at "no")))
local macro_rules | `(tactic| walk_at "m") => `(tactic| refine ⟨_, _, _, rfl, by first | assumption | exact upd_same, rfl, ?_⟩)
local macro_rules | `(tactic| walk_at "go") => `(tactic| repeat (first | walk_at "v" | walk_at "ii" | walk_at "f" | walk_at "m"))
local macro_rules | `(tactic| walk_at "s") => `(tactic| (refine ⟨_, _, _, _, rfl, by first | assumption | exact upd_same, ?cl, ?no, of_decide_eq_true rfl, ?_⟩; (case cl => walk_at "cl"); (case no => walk_at "no")))
abbrev N_test_line : List Str := ["plan", "test", "words", "names", "number"]
theorem sc_test_line : FnScope N_test_line ["plan", "test"] (defScope s_test_line) := C8.fnScope_by (by decide +kernel)
section
variable {P : Program} {w : World} {K : PySem.W.Frag} {mg : Str → Option Value} {base : Heap}
theorem bz (s : String) : (Str.ofString s).cps.toList = Vatsld.ascii s := by
  rw [Str.ofString_eq_toList]
  unfold Vatsld.ascii
  simp
abbrev TupsAt (H : Hp) (xs : List Addr) (ts : List (List Nat)) : Prop := Paired (fun (x : Addr) (t : List Nat) => H x = some (.tup (vN t))) xs ts
theorem tups_same {H H' : Hp} {xs : List Addr} {ts : List (List Nat)} (e : Same H H') (h : TupsAt H xs ts) : TupsAt H' xs ts := Paired.mapP h fun _ _ z => e _ _ z
theorem tups_mut {H : Hp} {xs : List Addr} {ts : List (List Nat)} {d : Addr} {l l' : List V} (h : TupsAt H xs ts) (hd : H d = some (.lst l)) : TupsAt (upd H d (.lst l')) xs ts := Paired.mapP h fun _ _ z => by
  rw [upd_ne (ne_of z hd fun y => by cases y)]
  exact z
/-- the names of tests told by their numbers -/
theorem names_of {H : Hp} {a g tl : Addr} {gs js : List Addr} {p : Vatsld.Plan} (hp : PlanL K H a g tl gs js p) : ∀ l : List Nat, (∀ n ∈ l, n < p.jobs.length) → ∃ nms : List Addr,
    Paired (fun (nm : Addr) (n : Nat) => ∃ x dx c h gr b, (js.map V.ref)[n]? = some (.ref x) ∧ H x = some (.ins (He.ga K "Test") dx [("name", .ref nm), ("cost", c), ("chance", h), ("group", gr), ("behind", b)]) ∧ H nm = some (.tup (vN (Vatsld.jobAt p n).name))) nms l
  | [], _ => ⟨[], .nil⟩
  | n :: l, h => by
    obtain ⟨nms, q⟩ := names_of hp l fun m hm => h m (List.mem_cons_of_mem _ hm)
    obtain ⟨xt, hxt, dt, nm, bh, h2, h3, h4⟩ := hp.test (job_get (h n (List.mem_cons_self ..)))
    exact ⟨nm :: nms, .cons ⟨xt, dt, _, _, _, _, hxt, h2, h3⟩ q⟩
def sp_test_line (K : PySem.W.Frag) : Sp := fun vs H Q _ => ∃ (a x : Addr) (p : Vatsld.Plan) (i : Nat) (j : Vatsld.Job), vs = [.ref a, .ref x] ∧ PlanAt K H a p ∧ Good p ∧ p.jobs[i]? = some j ∧ TestAt K H x j ∧ ∀ b H', Same H H' → H' b = some (.tup (vN (lineP p j))) → Q (.ref b) H'
theorem parts_bound {p : Vatsld.Plan} (good : Good p) {i : Nat} {j : Vatsld.Job} (hj : p.jobs[i]? = some j) : (∀ t ∈ partsP p j, t.length ≤ 200) ∧ (partsP p j).length ≤ 10 := by
  have jo := good.job i j hj
  have lens : ∀ n, n < p.jobs.length → (Vatsld.jobAt p n).name.length ≤ 12 := fun n hn => (good.job n _ (job_get hn)).nm
  have hi := (List.getElem?_eq_some_iff.mp hj).1
  have hj7 := good.j7
  have hal := nodup_len i _ jo.nd jo.af
  have hc := jo.c2
  have hch := jo.ch
  have hnm := jo.nm
  have d1 := decimal_len (n := j.cost) (by omega)
  have d2 := decimal_len (n := j.chance) (by omega)
  have hjn : (joinW (Vatsld.ascii ", ") (j.after_.map fun i => (Vatsld.jobAt p i).name)).length ≤ 200 := by
    have z := joinW_bound (Vatsld.ascii ", ") 12 (by decide) (j.after_.map fun i => (Vatsld.jobAt p i).name) (fun t ht => by
      obtain ⟨n, hn, rfl⟩ := List.mem_map.mp ht
      have := jo.af n hn
      exact lens n (by omega))
    rw [List.length_map] at z
    omega
  unfold partsP
  constructor
  · intro t ht
    rcases List.mem_append.mp ht with ht | ht
    · rcases List.mem_append.mp ht with ht | ht
      · have e : ∀ s : String, s = "test" ∨ s = "cost" ∨ s = "chance" → (Vatsld.ascii s).length ≤ 200 := by
          rintro s (rfl | rfl | rfl) <;> decide
        simp only [List.cons_append, List.nil_append, List.mem_cons, List.not_mem_nil, or_false] at ht
        rcases ht with rfl | rfl | rfl | rfl | rfl | rfl
        · decide
        · omega
        · decide
        · omega
        · decide
        · omega
      · cases hg : j.group with
        | none =>
          rw [gPart_none hg] at ht
          cases ht
        | some g =>
          have hgl := jo.gr g hg
          obtain ⟨y, hy⟩ : ∃ y, p.groups[g]? = some y := ⟨_, List.getElem?_eq_getElem hgl⟩
          rw [gPart_some hg hy] at ht
          simp only [List.mem_cons, List.not_mem_nil, or_false] at ht
          rcases ht with rfl | rfl
          · decide
          · have := (good.grp g y hy).2
            omega
    · unfold aPart at ht
      split at ht
      · cases ht
      · simp only [List.mem_cons, List.not_mem_nil, or_false] at ht
        rcases ht with rfl | rfl
        · decide
        · exact hjn
  · rw [List.length_append, List.length_append, List.length_append]
    have h1 : (gPart p j).length ≤ 2 := by
      unfold gPart
      cases j.group <;> simp
    have h2 : (aPart p j).length ≤ 2 := by
      unfold aPart
      split <;> simp
    show 5 + 1 + _ + _ ≤ 10
    omega
theorem cal_test_line (T : Tx K mg) : Cal P w K mg base 2 "test_line" (sp_test_line K) := by
  have c_bytes_of := cal_bytes_of (P := P) (w := w) (base := base) T
  have c_digits_of := cal_digits_of (P := P) (w := w) (base := base) T
  have c_joined := cal_joined (P := P) (w := w) (base := base) T
  obtain ⟨fd, F⟩ := T.def_ 39 (d := d_test_line) rfl
  refine cal_of F (g_test_line T) sc_test_line (fun _ _ _ _ _ _ us hl => match us, hl with | [_, _], _ => rfl) (fun vs H Q E h => ?_) fun cdv A outer s H vs Q E hr h => ⟨_, (pss_cons (ps_set (i := 2) sc_test_line.nd rfl (Or.inl rfl) (pe_lst (pa_cons (pe_c c_bytes_of hr (by decide) passL (pa_cons pe_str pa_nil)) (pa_cons (pe_fld (pv 1) rfl) (pa_cons (pe_c c_bytes_of hr (by decide) passL (pa_cons pe_str pa_nil)) (pa_cons (pe_c c_digits_of hr (by decide) passL (pa_cons (pe_fld (pv 1) rfl) pa_nil)) (pa_cons (pe_c c_bytes_of hr (by decide) passL (pa_cons pe_str pa_nil)) pa_nil)))))))
    (pss_cons (ps_expr (pe_bm PySem.F.plainAttrs_list PySem.F.slot_list_append PySem.F.type_list_append mt_append (pv 2) (pa_cons (pe_c c_digits_of hr (by decide) passL (pa_cons (pe_fld (pv 1) rfl) pa_nil)) pa_nil)))
    (pss_cons (ps_if (pt_cmpR op_ne (pe_fld (pv 1) rfl) (pe_gi (i_NO_GROUP T)) (nomark _)) (pss_one (ps_expr (pe_bm PySem.F.plainAttrs_list PySem.F.slot_list_extend PySem.F.type_list_extend mt_extend (pv 2) (pa_cons (pe_lst (pa_cons (pe_c c_bytes_of hr (by decide) passL (pa_cons pe_str pa_nil)) (pa_cons (pe_fld (pe_ix ix_list (pe_fld (pv 0) rfl) (pe_fld (pv 1) rfl) (fun _ _ => rfl)) rfl) pa_nil))) pa_nil)))) pss_nil)
    (pss_cons (ps_if (pt_cmpR (op_neD hr.units) (pe_fld (pv 1) rfl) (pe_lst pa_nil) (nomark _)) (pss_cons (ps_setLc (i := 3) (own := [("number", 4)]) rfl sc_test_line.nd rfl rfl (sw_true rfl rfl rfl (by decide +kernel)) (pi_list (pe_fld (pv 1) rfl)) (blkOk_by (own := [("number", 4)]) (N := N_test_line) (sc := defScope s_test_line) (by decide +kernel)) (fun _ _ _ _ _ => by exact (pg_name (i := 4) sc_test_line.nd rfl (Or.inl rfl))) (fun _ _ _ _ _ => by exact pts_nil) (fun _ _ _ _ _ => by exact (pe_fldK (K := K) rfl (pe_ix (ix_listK (K := K) rfl) (pe_fldK (K := K) rfl (pv 0) rfl) (pv 4) (fun _ _ => rfl)) rfl)))
    (pss_one (ps_expr (pe_bm PySem.F.plainAttrs_list PySem.F.slot_list_extend PySem.F.type_list_extend mt_extend (pv 2) (pa_cons (pe_lst (pa_cons (pe_c c_bytes_of hr (by decide) passL (pa_cons pe_str pa_nil)) (pa_cons (pe_c c_joined hr (by decide) passL (pa_cons (pv 3) (pa_cons (pe_c c_bytes_of hr (by decide) passL (pa_cons pe_str pa_nil)) pa_nil))) pa_nil))) pa_nil))))) pss_nil)
    (pss_one (ps_ret (pe_c c_joined hr (by decide) passL (pa_cons (pv 2) (pa_cons (pe_c c_bytes_of hr (by decide) passL (pa_cons pe_str pa_nil)) pa_nil))))))))), ?_⟩
  · obtain ⟨a, x, p, i, j, rfl, _⟩ := h
    rfl
  obtain ⟨a, x, p, i, j, rfl, ⟨g, tl, gs, js, hp⟩, good, hj, ⟨dx, nm, bh, h1, h2, h3⟩, q⟩ := h
  have jo := good.job i j hj
  have hc2 := jo.c2
  have hch := jo.ch
  walk_at "go"
  refine ⟨by decide, fun p1 H1 e1 hp1 => ?_⟩
  rw [bz] at hp1
  have h11 := e1 _ _ h1
  walk_at "go"
  refine ⟨by decide, fun p2 H2 e2 hp2 => ?_⟩
  rw [bz] at hp2
  have h12 := e2 _ _ h11
  walk_at "go"
  refine ⟨by omega, fun p3 H3 e3 hp3 => ?_⟩
  walk_at "go"
  refine ⟨by decide, fun p4 H4 e4 hp4 => ?_⟩
  rw [bz] at hp4
  have h14 := e4 _ _ (e3 _ _ h12)
  refine ⟨of_decide_eq_true rfl, fun wd hwd => ?_⟩
  generalize hH5 : upd H4 wd _ = H5
  obtain ⟨e5, hwd5⟩ := new_at hwd hH5
  dsimp only [gName]
  have e25 : Same H2 H5 := Same.trans e3 (Same.trans e4 e5)
  have e15 : Same H1 H5 := Same.trans e2 e25
  have e05 : Same H H5 := Same.trans e1 e15
  have h15 := e05 _ _ h1
  walk_at "go"
  refine ⟨.inl ⟨rfl, _, SqL.of hwd5⟩, ?_⟩
  walk_at "go"
  refine ⟨by omega, fun p5 H6 e6 hp5 => ?_⟩
  have hwd6 := e6 _ _ hwd5
  refine ⟨_, _, _, rfl, rfl, hwd6, by rw [sizeLine_eq]; exact of_decide_eq_true rfl, ?_⟩
  have hwdH : H wd = none := by
    cases e : H wd with
    | none => rfl
    | some o =>
      rw [e4 _ _ (e3 _ _ (e2 _ _ (e1 _ _ e)))] at hwd
      cases hwd
  have e06 := Same.trans e05 e6
  have T6 : TupsAt H6 [p1, nm, p2, p3, p4, p5] ([Vatsld.ascii "test", j.name, Vatsld.ascii "cost", Vatsld.decimal j.cost, Vatsld.ascii "chance"] ++ [Vatsld.decimal j.chance]) :=
    .cons (e6 _ _ (e15 _ _ hp1)) (.cons (e06 _ _ h2) (.cons (e6 _ _ (e25 _ _ hp2)) (.cons (e6 _ _ (e5 _ _ (e4 _ _ hp3))) (.cons (e6 _ _ (e5 _ _ hp4)) (.cons hp5 .nil)))))
  have T7 := tups_mut (l' := [V.ref p1, .ref nm, .ref p2, .ref p3, .ref p4] ++ [.ref p5]) T6 hwd6
  have e07 : Same H (upd H6 wd (.lst ([V.ref p1, .ref nm, .ref p2, .ref p3, .ref p4] ++ [.ref p5]))) := Same.mut e06 hwdH
  have hwd7 : (upd H6 wd (.lst ([V.ref p1, .ref nm, .ref p2, .ref p3, .ref p4] ++ [.ref p5]))) wd = some (.lst ([p1, nm, p2, p3, p4, p5].map V.ref)) := upd_same
  generalize upd H6 wd (HO.lst ([V.ref p1, .ref nm, .ref p2, .ref p3, .ref p4] ++ [.ref p5])) = H7 at T7 e07 hwd7 ⊢
  dsimp only
  refine joinS (fun σ' H' => σ' = [some (.ref a), some (.ref x), some (.ref wd), none, none] ∧ Same H H' ∧ ∃ ws : List Addr, H' wd = some (.lst (ws.map V.ref)) ∧ ws.length ≤ 8 ∧
      TupsAt H' ws (([Vatsld.ascii "test", j.name, Vatsld.ascii "cost", Vatsld.decimal j.cost, Vatsld.ascii "chance"] ++ [Vatsld.decimal j.chance]) ++ gPart p j)) (fun Nx hNx => ?_) ?_
  · have h17 := e07 _ _ h1
    have hp7 := hp.same e07
    obtain ⟨dp7, hpa7⟩ := hp7.at_
    refine tif (!decide (j.group = none)) (fun R q => ?_) (fun hb' => ?_) (fun hb' => ?_)
    · walk_at "go"
      refine ⟨rfl, ?_⟩
      walk_at "go"
      rw [show (!decide (V.int (gI j.group) = V.int (-1))) = !decide (j.group = none) by
        congr 1
        rw [dec_int]
        cases j.group with
        | none => rfl
        | some g => exact beq_eq_false_iff_ne.mpr (show ((g : Nat) : Int) ≠ -1 by omega)]
      exact q
    · cases hg : j.group with
      | none =>
        rw [hg] at hb'
        cases hb'
      | some gg =>
        rw [hg] at h17
        have hgl := jo.gr gg hg
        obtain ⟨y, hy⟩ : ∃ y, p.groups[gg]? = some y := ⟨_, List.getElem?_eq_getElem hgl⟩
        obtain ⟨xg, hxg, d', nm', h5, h6⟩ := hp7.group hy
        walk_at "go"
        refine ⟨.inl ⟨rfl, _, SqL.of hwd7⟩, ?_⟩
        walk_at "go"
        refine ⟨by decide, fun p8 H8 e8 hp8 => ?_⟩
        rw [bz] at hp8
        have hpa8 := e8 _ _ hpa7
        have h18 := e8 _ _ h17
        have h58 := e8 _ _ h5
        walk_at "go"
        refine ⟨_, _, _, _, rfl, rfl, SqL.of (e8 _ _ hp7.hg), atI_nat (j := gg) hxg, ?_⟩
        walk_at "go"
        refine ⟨of_decide_eq_true rfl, fun l9 hl9 => ?_⟩
        generalize hH9 : upd H8 l9 _ = H9
        obtain ⟨e9, hl99⟩ := new_at hl9 hH9
        have e79 := Same.trans e8 e9
        have hwd9 := e79 _ _ hwd7
        refine ⟨_, _, _, _, rfl, rfl, hwd9, hl99, by rw [sizeLine_eq]; exact of_decide_eq_true rfl, ?_⟩
        refine hNx _ _ ⟨rfl, Same.mut (Same.trans e07 e79) hwdH, [p1, nm, p2, p3, p4, p5] ++ [p8, nm'], upd_same, of_decide_eq_true rfl, ?_⟩
        rw [gPart_some hg hy]
        exact pair_append (tups_mut (tups_same e79 T7) hwd9) (tups_mut (.cons (e9 _ _ hp8) (.cons (e79 _ _ h6) .nil)) hwd9)
    · have hb2 : j.group = none := of_decide_eq_true (by rw [← Bool.not_eq_false']; exact hb')
      refine hNx _ _ ⟨rfl, e07, _, hwd7, of_decide_eq_true rfl, ?_⟩
      rw [gPart_none hb2, List.append_nil]
      exact T7
  · rintro σ' H8 ⟨rfl, e08, ws, hwd8, hwl, T8⟩
    refine joinS (fun σ' H' => (∃ v v2, σ' = [some (.ref a), some (.ref x), some (.ref wd), v, v2]) ∧ Same H H' ∧ ∃ ws : List Addr, H' wd = some (.lst (ws.map V.ref)) ∧ TupsAt H' ws (partsP p j)) (fun Nx hNx => ?_) ?_
    · have h18 := e08 _ _ h1
      have h38 := e08 _ _ h3
      refine tifS (!decide (j.after_ = [])) (fun R q => ?_) (fun H9 e9 hb' => ?_) (fun H9 e9 hb' => ?_)
      · walk_at "go"
        refine ⟨Nat.zero_le _, fun p2' hn2 => ?_⟩
        generalize hH9 : upd H8 p2' _ = H9
        obtain ⟨e9, hp2'⟩ := new_at hn2 hH9
        refine ⟨_, _, .lst (SqL.of (e9 _ _ h38)) (dp_N _), .lst (SqL.of hp2') (dp_N []), shL_N _, shL_N _, ?_⟩
        rw [eqL_N]
        walk_at "go"
        exact q H9 e9
      · have hb2 : ¬ j.after_ = [] := of_decide_eq_false (by rw [← Bool.not_eq_true']; exact hb')
        have e09 := Same.trans e08 e9
        have h19 := e9 _ _ h18
        have h39 := e9 _ _ h38
        have hp9 := hp.same e09
        have hwd9 := e9 _ _ hwd8
        have hal := nodup_len i _ jo.nd jo.af
        have hil := (List.getElem?_eq_some_iff.mp hj).1
        have hj7 := good.j7
        obtain ⟨nms, hnms⟩ := names_of hp9 j.after_ fun n hn => by
          have := jo.af n hn
          omega
        have hnl := pair_len hnms
        walk_at "go"
        refine ⟨⟨_, SqL.of h39⟩, fun D hD => lcS_list (xs := vN j.after_) (fun k => (nms.take k).map V.ref) hD rfl (SqL.of h39) ?_ ?_⟩
        · intro k y H10 hy ac
          obtain ⟨n, hn, rfl⟩ := of_vN hy
          obtain ⟨nm2, hnm2, xt, dt, c1, c2, c3, c4, hxt, h5, h6⟩ := pair_get hnms hn
          have hp10 := hp9.same ac.1
          obtain ⟨dp10, hpa10⟩ := hp10.at_
          have h510 := ac.1 _ _ h5
          have hkl : k < nms.length := (List.getElem?_eq_some_iff.mp hnm2).1
          refine ⟨rfl, ?_⟩
          dsimp only [tYes]
          rw [if_pos rfl]
          walk_at "go"
          refine ⟨_, _, _, _, rfl, rfl, SqL.of hp10.ht, atI_nat hxt, ?_⟩
          walk_at "go"
          exact AddTo.of hD ac (Same.refl _) (by rw [take_more hnm2, List.map_append] <;> rfl) (by rw [List.length_map, List.length_take, sizeLine_eq]; omega)
        · intro H10 ac
          rw [vN_length, ← hnl, List.take_length] at ac
          have hn10 : TupsAt H10 nms (j.after_.map fun i => (Vatsld.jobAt p i).name) := pair_map (fun _ _ z => by
            obtain ⟨_, _, _, _, _, _, _, _, z⟩ := z
            exact ac.1 _ _ z) hnms
          have hwd10 := ac.1 _ _ hwd9
          walk_at "go"
          refine ⟨.inl ⟨rfl, _, SqL.of hwd10⟩, ?_⟩
          walk_at "go"
          refine ⟨by decide, fun p11 H11 e11 hp11 => ?_⟩
          rw [bz] at hp11
          walk_at "go"
          refine ⟨by decide, fun p12 H12 e12 hp12 => ?_⟩
          rw [bz] at hp12
          have e1012 := Same.trans e11 e12
          refine ⟨D, p12, nms, _, _, rfl, e1012 _ _ ac.2, tups_same e1012 hn10, hp12, ?_, fun p13 H13 e13 hp13 => ?_⟩
          · have z := joinW_bound (Vatsld.ascii ", ") 12 (by decide) (j.after_.map fun i => (Vatsld.jobAt p i).name) (fun t ht => by
              obtain ⟨n, hn, rfl⟩ := List.mem_map.mp ht
              have h7 := jo.af n hn
              exact (good.job n _ (job_get (by omega))).nm)
            rw [List.length_map] at z
            omega
          · refine ⟨of_decide_eq_true rfl, fun l14 hl14 => ?_⟩
            generalize hH14 : upd H13 l14 _ = H14
            obtain ⟨e14, hl1414⟩ := new_at hl14 hH14
            have e1114 : Same H11 H14 := Same.trans e12 (Same.trans e13 e14)
            have e1014 := Same.trans e11 e1114
            have hwd14 := e1014 _ _ hwd10
            refine ⟨_, _, _, _, rfl, rfl, hwd14, hl1414, by rw [List.length_map, sizeLine_eq]; show ws.length + 2 ≤ _; omega, ?_⟩
            have e914 := Same.trans ac.1 e1014
            refine hNx _ _ ⟨⟨_, _, rfl⟩, Same.mut (Same.trans e09 e914) hwdH, ws ++ [p11, p13], by rw [upd_same, List.map_append] <;> rfl, ?_⟩
            unfold partsP aPart
            rw [if_neg hb2]
            exact pair_append (tups_mut (tups_same (Same.trans e9 e914) T8) hwd14) (tups_mut (.cons (e1114 _ _ hp11) (.cons (e14 _ _ hp13) .nil)) hwd14)
      · have hb2 : j.after_ = [] := of_decide_eq_true (by rw [← Bool.not_eq_false']; exact hb')
        refine hNx _ _ ⟨⟨_, _, rfl⟩, Same.trans e08 e9, ws, e9 _ _ hwd8, ?_⟩
        unfold partsP aPart
        rw [if_pos hb2, List.append_nil]
        exact tups_same e9 T8
    · rintro σ' H9 ⟨⟨v, v2, rfl⟩, e09, ws9, hwd9, T9⟩
      have pb := parts_bound good hj
      walk_at "go"
      refine ⟨by decide, fun p10 H10 e10 hp10 => ?_⟩
      rw [bz] at hp10
      refine ⟨wd, p10, ws9, partsP p j, _, rfl, e10 _ _ hwd9, tups_same e10 T9, hp10, ?_, fun c H11 e11 hc => ?_⟩
      · have z := joinW_bound (Vatsld.ascii " ") 200 (by decide) (partsP p j) pb.1
        have := pb.2
        have : 2 * 200 * (partsP p j).length ≤ 400 * 10 := Nat.mul_le_mul_left 400 this
        omega
      · exact q c H11 (Same.trans e09 (Same.trans e10 e11)) hc
end
end
section
local macro_rules | `(tactic| walk_at "v") => `(tactic| refine ⟨_, rfl, ?_⟩)
local macro_rules | `(tactic| walk_at "ii") => `(tactic| refine ⟨_, _, rfl, rfl, ?_⟩)
local macro_rules | `(tactic| walk_at "no") => `(tactic| first | exact n_Plan_groups ‹_› | exact n_Plan_tests ‹_› | exact n_Group_name ‹_› | exact n_Group_cost ‹_› | exact n_Test_name ‹_› | exact n_Test_cost ‹_› | exact n_Test_chance ‹_› | exact n_Test_group ‹_› | exact n_Test_behind ‹_› | exact n_Token_mark ‹_› | exact n_Token_some ‹_› | exact n_Token_place ‹_› | exact n_Reader_text ‹_› | exact n_Reader_at ‹_› | exact n_Reader_seen ‹_› | exact n_Search_plan ‹_› | exact n_Search_known ‹_› | exact n_Desk_plan ‹_›)
local macro_rules | `(tactic| walk_at "cl") => `(tactic| first | exact c_Plan ‹_› | exact c_Test ‹_› | exact c_Group ‹_› | exact c_Token ‹_› | exact c_Reader ‹_› | exact c_Search ‹_› | exact c_Desk ‹_›)
local macro_rules | `(tactic| walk_at "f") => `(tactic| (refine ⟨_, _, _, _, _, rfl, by first | assumption | exact upd_same, ?cl, ?no, rfl, ?_⟩; (case cl => walk_at "cl"); (case no => walk_at "no")))
local macro_rules | `(tactic| walk_at "m") => `(tactic| refine ⟨_, _, _, rfl, by first | assumption | exact upd_same, rfl, ?_⟩)
local macro_rules | `(tactic| walk_at "go") => `(tactic| repeat (first | walk_at "v" | walk_at "ii" | walk_at "f" | walk_at "m"))
local macro_rules | `(tactic| walk_at "s") => `(tactic| (refine ⟨_, _, _, _, rfl, by first | assumption | exact upd_same, ?cl, ?no, of_decide_eq_true rfl, ?_⟩; (case cl => walk_at "cl"); (case no => walk_at "no")))
abbrev N_plan_text : List Str := ["plan", "lines", "found", "line", "own", "test"]
theorem sc_plan_text : FnScope N_plan_text ["plan"] (defScope s_plan_text) := C8.fnScope_by (by decide +kernel)
section
variable {P : Program} {w : World} {K : PySem.W.Frag} {mg : Str → Option Value} {base : Heap}
/-- a list that grows by new tuples -/
def AccT (H0 : Hp) (D : Addr) (ts : List (List Nat)) (H : Hp) : Prop := Same H0 H ∧ ∃ ads : List Addr, H D = some (.lst (ads.map V.ref)) ∧ TupsAt H ads ts
theorem AccT.add {H0 H H4 : Hp} {D : Addr} {ts : List (List Nat)} {t : List Nat} {x : Addr} (hD : H0 D = none) (a : AccT H0 D ts H) (e : Same H H4) (hx : H4 x = some (.tup (vN t))) (hl : ts.length < sizeLine) :
    ∃ acc, H4 D = some (.lst acc) ∧ acc.length < sizeLine ∧ AccT H0 D (ts ++ [t]) (upd H4 D (.lst (acc ++ [.ref x]))) := by
  obtain ⟨e0, ads, h1, h2⟩ := a
  have h14 := e _ _ h1
  refine ⟨_, h14, by rw [List.length_map, pair_len h2]; exact hl, Same.mut (Same.trans e0 e) hD, ads ++ [x], by rw [upd_same, List.map_append] <;> rfl, pair_append (tups_mut (tups_same e h2) h14) (tups_mut (.cons hx .nil) h14)⟩
theorem cat_any {H : Hp} {a b : Addr} {xs ys : List V} {Q : VK} (ha : SqT K H a xs) (hb : SqT K H b ys) (hl : xs.length + ys.length ≤ sizeLine) (q : ∀ p H', Same H H' → SqT K H' p (xs ++ ys) → Q (.ref p) H') : rCatA K (.ref a) (.ref b) H Q := by
  refine ⟨a, b, xs, ys, rfl, rfl, ha, hb, hl, fun h => ?_, fun _ h => ?_, fun _ _ p hp => ?_⟩
  · exact q b H (Same.refl _) (by rw [h]; exact hb)
  · exact q a H (Same.refl _) (by rw [h, List.append_nil]; exact ha)
  · exact q p _ (Same.new hp) (.inl (.inl upd_same))
def sp_plan_text (K : PySem.W.Frag) : Sp := fun vs H Q _ => ∃ (a : Addr) (p : Vatsld.Plan), vs = [.ref a] ∧ PlanAt K H a p ∧ Good p ∧ ∀ b H', Same H H' → H b = none → H' b = some (.lst (vN (Vatsld.writePlan p))) → (vN (Vatsld.writePlan p)).length ≤ 100000 → Q (.ref b) H'
theorem line_len {p : Vatsld.Plan} (good : Good p) : (∀ l ∈ linesP p, l.length ≤ 4000) ∧ (linesP p).length ≤ 10 := by
  have g3 := good.g3
  have j7 := good.j7
  constructor
  · intro l hl
    unfold linesP at hl
    rcases List.mem_append.mp hl with hl | hl
    · obtain ⟨g, hg, rfl⟩ := List.mem_map.mp hl
      obtain ⟨i, hi⟩ := List.mem_iff_getElem?.mp hg
      obtain ⟨h1, h2⟩ := good.grp i g hi
      have d1 := decimal_len (n := g.setup) (by omega)
      have z := joinW_bound (Vatsld.ascii " ") 12 (by decide) [Vatsld.ascii "group", g.name, Vatsld.decimal g.setup] (fun t ht => by
        simp only [List.mem_cons, List.not_mem_nil, or_false] at ht
        rcases ht with rfl | rfl | rfl
        · decide
        · exact h2
        · omega)
      exact Nat.le_trans z (of_decide_eq_true rfl)
    · obtain ⟨j, hj, rfl⟩ := List.mem_map.mp hl
      obtain ⟨i, hi⟩ := List.mem_iff_getElem?.mp hj
      have pb := parts_bound good hi
      have z := joinW_bound (Vatsld.ascii " ") 200 (by decide) (partsP p j) pb.1
      have := pb.2
      have : 2 * 200 * (partsP p j).length ≤ 400 * 10 := Nat.mul_le_mul_left 400 this
      exact Nat.le_trans z this
  · unfold linesP
    rw [List.length_append, List.length_map, List.length_map]
    omega
theorem text_len {ls : List (List Nat)} (h : ∀ l ∈ ls, l.length ≤ 4000) : ∀ {n : Nat}, ls.length ≤ n → (ls.flatMap fun l => l ++ Vatsld.ascii ";" ++ [10]).length ≤ 4002 * n := by
  induction ls with
  | nil => intro n _; simp
  | cons x l ih =>
    intro n hn
    rw [List.length_cons] at hn
    obtain ⟨m, rfl⟩ : ∃ m, n = m + 1 := ⟨n - 1, by omega⟩
    have h1 := ih (fun y hy => h y (List.mem_cons_of_mem _ hy)) (n := m) (by omega)
    have h2 := h x (List.mem_cons_self ..)
    rw [List.flatMap_cons, List.length_append, List.length_append, List.length_append]
    have h3 : (Vatsld.ascii ";").length = 1 := by decide
    rw [h3, List.length_singleton]
    omega
theorem cal_plan_text (T : Tx K mg) : Cal P w K mg base 3 "plan_text" (sp_plan_text K) := by
  have c_bytes_of := cal_bytes_of (P := P) (w := w) (base := base) T
  have c_digits_of := cal_digits_of (P := P) (w := w) (base := base) T
  have c_joined := cal_joined (P := P) (w := w) (base := base) T
  have c_test_line := cal_test_line (P := P) (w := w) (base := base) T
  obtain ⟨fd, F⟩ := T.def_ 40 (d := d_plan_text) rfl
  refine cal_of F (g_plan_text T) sc_plan_text (fun _ _ _ _ _ _ us hl => match us, hl with | [_], _ => rfl) (fun vs H Q E h => ?_) fun cdv A outer s H vs Q E hr h => ⟨_, (pss_cons (ps_setLc (i := 1) (own := [("own", 4)]) rfl sc_plan_text.nd rfl rfl (sw_true rfl rfl rfl (by decide +kernel)) (pi_list (pe_fld (pv 0) rfl)) (blkOk_by (own := [("own", 4)]) (N := N_plan_text) (sc := defScope s_plan_text) (by decide +kernel)) (fun _ _ _ _ _ => by exact (pg_name (i := 4) sc_plan_text.nd rfl (Or.inl rfl))) (fun _ _ _ _ _ => by exact pts_nil) (fun _ _ _ _ _ => by exact (pe_c c_joined hr (by decide) passL (pa_cons (pe_lst (pa_cons (pe_c c_bytes_of hr (by decide) passL (pa_cons pe_str pa_nil)) (pa_cons (pe_fldK (K := K) rfl (pv 4) rfl) (pa_cons (pe_c c_digits_of hr (by decide) passL (pa_cons (pe_fldK (K := K) rfl (pv 4) rfl) pa_nil)) pa_nil)))) (pa_cons (pe_c c_bytes_of hr (by decide) passL (pa_cons pe_str pa_nil)) pa_nil)))))
    (pss_cons (ps_set (i := 1) sc_plan_text.nd rfl (Or.inl rfl) (pe_op op_cat (pv 1) (pe_lc (own := [("test", 5)]) rfl sc_plan_text.nd (pi_list (pe_fld (pv 0) rfl)) (blkOk_by (own := [("test", 5)]) (N := N_plan_text) (sc := defScope s_plan_text) (by decide +kernel)) (fun _ _ _ _ _ => by exact (pg_name (i := 5) sc_plan_text.nd rfl (Or.inl rfl))) (fun _ _ _ _ _ => by exact pts_nil) (fun _ _ _ _ _ => by exact (pe_c c_test_line hr (by decide) passL (pa_cons (pv 0) (pa_cons (pv 5) pa_nil)))))))
    (pss_cons (ps_set (i := 2) sc_plan_text.nd rfl (Or.inl rfl) (pe_lst pa_nil))
    (pss_cons (ps_for (passes_of rfl) rfl (pi_list (pv 1)) (pg_name (i := 3) sc_plan_text.nd rfl (Or.inl rfl)) (pss_one (ps_expr (pe_bm PySem.F.plainAttrs_list PySem.F.slot_list_extend PySem.F.type_list_extend mt_extendT (pv 2) (pa_cons (pe_op op_catA (pe_op op_catA (pv 3) (pe_c c_bytes_of hr (by decide) passL (pa_cons pe_str pa_nil))) (pe_tup (pa_cons (pe_gi (i_LINE_END T)) pa_nil))) pa_nil)))))
    (pss_one (ps_ret (pv 2))))))), ?_⟩
  · obtain ⟨a, p, rfl, _⟩ := h
    rfl
  obtain ⟨a, p, rfl, ⟨g, tl, gs, js, hp⟩, good, q⟩ := h
  obtain ⟨dp, hpa⟩ := hp.at_
  have ll := line_len good
  have hg3 := good.g3
  have hj7 := good.j7
  walk_at "go"
  refine ⟨⟨_, SqL.of hp.hg⟩, fun D hD => lc_list (xs := gs.map V.ref) (fun i H' => AccT H D ((p.groups.map lineG).take i) H') ⟨Same.new hD, [], upd_same, .nil⟩ (fun i H' _ ac => SqL.of (ac.1 _ _ hp.hg)) ?_ ?_⟩
  · intro i x H1 hx ac
    obtain ⟨ad, had, rfl⟩ := of_vR hx
    obtain ⟨y, hy, d', nm, h1, h2⟩ := pair_two hp.pg had
    have hgr := good.grp i y hy
    have hyl : (p.groups.map lineG)[i]? = some (lineG y) := by rw [List.getElem?_map, hy] <;> rfl
    have hil : i < p.groups.length := (List.getElem?_eq_some_iff.mp hy).1
    have h11 := ac.1 _ _ h1
    refine ⟨rfl, ?_⟩
    dsimp only [tYes]
    rw [if_pos rfl]
    walk_at "go"
    refine ⟨by decide, fun p2 H2 e2 hp2 => ?_⟩
    rw [bz] at hp2
    have h12 := e2 _ _ h11
    refine ⟨_, rfl, _, _, _, _, _, rfl, h12, c_Group T, n_Group_name T, rfl, ?_⟩
    refine ⟨_, rfl, _, _, _, _, _, rfl, h12, c_Group T, n_Group_cost T, rfl, ?_⟩
    refine ⟨y.setup, rfl, by omega, fun p3 H3 e3 hp3 => ?_⟩
    refine ⟨of_decide_eq_true rfl, fun l4 hl4 => ?_⟩
    generalize hH4 : upd H3 l4 _ = H4
    obtain ⟨e4, hl44⟩ := new_at hl4 hH4
    walk_at "go"
    refine ⟨by decide, fun p5 H5 e5 hp5 => ?_⟩
    rw [bz] at hp5
    have e45 := Same.trans e4 e5
    have e15 : Same H1 H5 := Same.trans e2 (Same.trans e3 e45)
    refine ⟨l4, p5, [p2, nm, p3], [Vatsld.ascii "group", y.name, Vatsld.decimal y.setup], _, rfl, e5 _ _ hl44, .cons (e45 _ _ (e3 _ _ hp2)) (.cons (e15 _ _ (ac.1 _ _ h2)) (.cons (e45 _ _ hp3) .nil)), hp5, ?_, fun c H6 e6 hc => ?_⟩
    · exact Nat.le_trans (ll.1 (lineG y) (List.mem_append.mpr (.inl (List.mem_map.mpr ⟨y, List.mem_of_getElem? hy, rfl⟩)))) (by decide)
    · rw [take_more hyl]
      exact AccT.add hD ac (Same.trans e15 e6) hc (by rw [List.length_take, sizeLine_eq]; omega)
  · intro H1 ac
    rw [show (gs.map V.ref).length = (p.groups.map lineG).length by rw [List.length_map, List.length_map, hp.lenG], List.take_length] at ac
    obtain ⟨e1, ads1, hD1, t1⟩ := ac
    have hp1 := hp.same e1
    have hpa1 := e1 _ _ hpa
    dsimp only [gName]
    walk_at "go"
    refine ⟨⟨_, SqL.of hp1.ht⟩, fun D2 hD2 => lc_list (xs := js.map V.ref) (fun i H' => AccT H1 D2 ((p.jobs.map (lineP p)).take i) H') ⟨Same.new hD2, [], upd_same, .nil⟩ (fun i H' _ ac => SqL.of (ac.1 _ _ hp1.ht)) ?_ ?_⟩
    · intro i x H2 hx ac
      obtain ⟨ad, had, rfl⟩ := of_vR hx
      obtain ⟨y, hy, hty⟩ := pair_two hp1.pt had
      have hyl : (p.jobs.map (lineP p))[i]? = some (lineP p y) := by rw [List.getElem?_map, hy] <;> rfl
      have hil : i < p.jobs.length := (List.getElem?_eq_some_iff.mp hy).1
      have hp2 := hp1.same ac.1
      refine ⟨rfl, ?_⟩
      dsimp only [tYes]
      rw [if_pos rfl]
      walk_at "go"
      refine ⟨a, ad, p, i, y, rfl, ⟨g, tl, gs, js, hp2⟩, good, hy, hty.at_.same ac.1, fun c H3 e3 hc => ?_⟩
      rw [take_more hyl]
      exact AccT.add hD2 ac e3 hc (by rw [List.length_take, sizeLine_eq]; omega)
    · intro H2 ac
      rw [show (js.map V.ref).length = (p.jobs.map (lineP p)).length by rw [List.length_map, List.length_map, hp.lenT], List.take_length] at ac
      obtain ⟨e2, ads2, hD22, t2⟩ := ac
      have T3 : TupsAt H2 (ads1 ++ ads2) (linesP p) := pair_append (tups_same e2 t1) t2
      have hal := pair_len T3
      have hll := ll.2
      refine ⟨_, _, _, _, rfl, rfl, e2 _ _ hD1, hD22, ?_, fun l3 hl3 => ?_⟩
      · rw [List.length_map, List.length_map, sizeLine_eq, ← List.length_append, hal]
        omega
      · generalize hH3 : upd H2 l3 _ = H3
        obtain ⟨e3, hl33⟩ := new_at hl3 hH3
        rw [← List.map_append] at hl33
        have T3' := tups_same e3 T3
        have e03 : Same H H3 := Same.trans e1 (Same.trans e2 e3)
        dsimp only [gName]
        walk_at "go"
        refine ⟨Nat.zero_le _, fun f hf => ?_⟩
        have hfH := Same.free e03 hf
        dsimp only [gName]
        walk_at "go"
        refine ⟨⟨_, SqL.of (Same.new hf _ _ hl33)⟩, for_list (xs := (ads1 ++ ads2).map V.ref) (fun i σ H' => (∃ v1 v2 v3, σ = [some (.ref a), some (.ref l3), some (.ref f), v1, v2, v3]) ∧ Acc H3 f (vN (((linesP p).take i).flatMap fun l => l ++ Vatsld.ascii ";" ++ [10])) H') ⟨⟨_, _, _, rfl⟩, Acc.new hf []⟩ ?_ ?_ ?_⟩
        · rintro i σ H' hi ⟨_, ac⟩
          exact SqL.of (ac.1 _ _ hl33)
        · rintro i x σ H4 hx ⟨⟨v1, v2, v3, rfl⟩, ac⟩
          obtain ⟨ad, had, rfl⟩ := of_vR hx
          obtain ⟨t, ht, hat⟩ := pair_two T3' had
          have hat4 := ac.1 _ _ hat
          have htl := ll.1 t (List.mem_of_getElem? ht)
          have tl2 := text_len (ls := (linesP p).take i) (fun l hl => ll.1 l (List.mem_of_mem_take hl)) (n := 10) (by rw [List.length_take]; omega)
          walk_at "go"
          refine ⟨.inl ⟨rfl, _, SqL.of ac.2⟩, ?_⟩
          walk_at "go"
          refine ⟨by decide, fun p5 H5 e5 hp5 => ?_⟩
          rw [bz] at hp5
          have hc1 : (Vatsld.ascii ";").length = 1 := by decide
          refine cat_any (.inl (.inl (e5 _ _ hat4))) (.inl (.inl hp5)) (by rw [vN_length, vN_length, hc1, sizeLine_eq]; omega) fun p6 H6 e6 hp6 => ?_
          walk_at "go"
          refine ⟨of_decide_eq_true rfl, fun p7 hp7 => ?_⟩
          generalize hH7 : upd H6 p7 _ = H7
          obtain ⟨e7, hp77⟩ := new_at hp7 hH7
          refine cat_any (Same.seqT e7 hp6) (.inl (.inl hp77)) (by rw [List.length_append, vN_length, vN_length, hc1, sizeLine_eq]; show _ + 1 ≤ _; omega) fun p8 H8 e8 hp8 => ?_
          have e48 : Same H4 H8 := Same.trans e5 (Same.trans e6 (Same.trans e7 e8))
          have ac8 := ac.same e48
          have ey : vN t ++ vN (Vatsld.ascii ";") ++ [V.int 10] = vN (t ++ Vatsld.ascii ";" ++ [10]) := by
            rw [vN_append, vN_append] <;> rfl
          rw [ey] at hp8
          refine ⟨_, _, _, _, rfl, rfl, ac8.2, hp8, ?_, ⟨_, _, _, rfl⟩, ?_⟩
          · rw [vN_length, vN_length, List.length_append, List.length_append, hc1, List.length_singleton, sizeLine_eq]
            exact Nat.le_trans (Nat.add_le_add tl2 (show t.length + 1 + 1 ≤ 4002 by omega)) (of_decide_eq_true rfl)
          · rw [take_more ht, List.flatMap_append, List.flatMap_singleton, vN_append (l := List.flatMap _ _)]
            exact ac8.put hf _
        · rintro σ H4 ⟨⟨v1, v2, v3, rfl⟩, ac⟩
          rw [List.length_map, hal, List.take_length, show ((linesP p).flatMap fun l => l ++ Vatsld.ascii ";" ++ [10]) = Vatsld.writePlan p from textP_eq p] at ac
          walk_at "go"
          refine q f H4 (Same.trans e03 ac.1) hfH ac.2 ?_
          rw [vN_length, ← textP_eq]
          have z := text_len ll.1 (n := 10) ll.2
          exact Nat.le_trans z (of_decide_eq_true rfl)
end
end
section
local macro_rules | `(tactic| walk_at "v") => `(tactic| refine ⟨_, rfl, ?_⟩)
local macro_rules | `(tactic| walk_at "ii") => `(tactic| refine ⟨_, _, rfl, rfl, ?_⟩)
local macro_rules | `(tactic| walk_at "no") => `(tactic| first | exact n_Plan_groups ‹_› | exact n_Plan_tests ‹_› | exact n_Group_name ‹_› | exact n_Group_cost ‹_› | exact n_Test_name ‹_› | exact n_Test_cost ‹_› | exact n_Test_chance ‹_› | exact n_Test_group ‹_› | exact n_Test_behind ‹_› | exact n_Token_mark ‹_› | exact n_Token_some ‹_› | exact n_Token_place ‹_› | exact n_Reader_text ‹_› | exact n_Reader_at ‹_› | exact n_Reader_seen ‹_› | exact n_Search_plan ‹_› | exact n_Search_known ‹_› | exact n_Desk_plan ‹_›)
local macro_rules | `(tactic| walk_at "cl") => `(tactic| first | exact c_Plan ‹_› | exact c_Test ‹_› | exact c_Group ‹_› | exact c_Token ‹_› | exact c_Reader ‹_› | exact c_Search ‹_› | exact c_Desk ‹_›)
local macro_rules | `(tactic| walk_at "f") => `(tactic| (refine ⟨_, _, _, _, _, rfl, by first | assumption | exact upd_same, ?cl, ?no, rfl, ?_⟩; (case cl => walk_at "cl"); (case no => walk_at "no")))
local macro_rules | `(tactic| walk_at "m") => `(tactic| refine ⟨_, _, _, rfl, by first | assumption | exact upd_same, rfl, ?_⟩)
local macro_rules | `(tactic| walk_at "go") => `(tactic| repeat (first | walk_at "v" | walk_at "ii" | walk_at "f" | walk_at "m"))
local macro_rules | `(tactic| walk_at "s") => `(tactic| (refine ⟨_, _, _, _, rfl, by first | assumption | exact upd_same, ?cl, ?no, of_decide_eq_true rfl, ?_⟩; (case cl => walk_at "cl"); (case no => walk_at "no")))
abbrev N_scaled : List Str := ["cost", "many", "turn"]
theorem sc_scaled : FnScope N_scaled ["cost", "many"] (defScope s_scaled) := C8.fnScope_by (by decide +kernel)
abbrev N_step_cost : List Str := ["plan", "number", "group", "test"]
theorem sc_step_cost : FnScope N_step_cost ["plan", "number", "group"] (defScope s_step_cost) := C8.fnScope_by (by decide +kernel)
abbrev N_group_behind : List Str := ["plan", "number", "group"]
theorem sc_group_behind : FnScope N_group_behind ["plan", "number", "group"] (defScope s_group_behind) := C8.fnScope_by (by decide +kernel)
abbrev N_comes_before : List Str := ["one", "other"]
theorem sc_comes_before : FnScope N_comes_before ["one", "other"] (defScope s_comes_before) := C8.fnScope_by (by decide +kernel)
abbrev N_may_run : List Str := ["plan", "done", "found", "number", "test", "own"]
theorem sc_may_run : FnScope N_may_run ["plan", "done"] (defScope s_may_run) := C8.fnScope_by (by decide +kernel)
section
variable {P : Program} {w : World} {K : PySem.W.Frag} {mg : Str → Option Value} {base : Heap}
def sp_scaled : Sp := fun vs H Q _ => ∃ (c : Int) (n : Nat), vs = [.int c, .int n] ∧ n ≤ 1000 ∧ Q (.int (c * 100 ^ n)) H
theorem cal_scaled (T : Tx K mg) : Cal P w K mg base 1 "scaled" sp_scaled := by
  obtain ⟨fd, F⟩ := T.def_ 41 (d := d_scaled) rfl
  refine cal_of F (g_scaled T) sc_scaled (fun _ _ _ _ _ _ us hl => match us, hl with | [_, _], _ => rfl) (fun vs H Q E h => ?_) fun cdv A outer s H vs Q E hr h => ⟨_, (pss_cons (ps_for (passes_of rfl) rfl (pi_range1 (by rfl) (f_range T) (pa_cons (pv 1) pa_nil)) (pg_name (i := 2) sc_scaled.nd rfl (Or.inl rfl)) (pss_one (ps_set (i := 0) sc_scaled.nd rfl (Or.inl rfl) (pe_op op_mul (pv 0) (pe_gi (i_HUNDRED T))))))
    (pss_one (ps_ret (pv 0)))), ?_⟩
  · obtain ⟨c, n, rfl, _⟩ := h
    rfl
  obtain ⟨c, n, rfl, hn, q⟩ := h
  walk_at "go"
  refine ⟨by omega, by omega, for_range (n := n) (fun i σ H' => H' = H ∧ ∃ v, σ = [some (.int (c * 100 ^ i)), some (.int n), v]) ⟨rfl, none, ?_⟩ ?_ ?_⟩
  · simp [L2.start]
  · rintro i σ H' hi ⟨rfl, v, rfl⟩
    walk_at "go"
    refine ⟨Or.inr ⟨by decide, by decide⟩, rfl, some (.int (0 + i)), ?_⟩
    rw [Int.pow_succ, ← Int.mul_assoc] <;> rfl
  · rintro σ H' ⟨rfl, v, rfl⟩
    walk_at "go"
    exact q
def ofI (k : Int) : Option Nat := if k = -1 then none else some k.toNat
theorem setupI_some {p : Vatsld.Plan} (g : Nat) : setupI p (g : Nat) = (p.groups[g]?).elim 0 fun x => x.setup := by
  unfold setupI
  rw [if_neg (by omega)] <;> rfl
def sp_step_cost (K : PySem.W.Frag) : Sp := fun vs H Q _ => ∃ (a : Addr) (p : Vatsld.Plan) (n : Nat) (last : Option Nat), vs = [.ref a, .int n, .int (gI last)] ∧ PlanAt K H a p ∧ Good p ∧ n < p.jobs.length ∧
  ∀ H', Same H H' → Q (.int (Vatsld.costFrom p last n : Nat)) H'
theorem cal_step_cost (T : Tx K mg) : Cal P w K mg base 2 "step_cost" (sp_step_cost K) := by
  have c_Plan_setup := met_setup (P := P) (w := w) (base := base) T
  obtain ⟨fd, F⟩ := T.def_ 42 (d := d_step_cost) rfl
  refine cal_of F (g_step_cost T) sc_step_cost (fun _ _ _ _ _ _ us hl => match us, hl with | [_, _, _], _ => rfl) (fun vs H Q E h => ?_) fun cdv A outer s H vs Q E hr h => ⟨_, (pss_cons (ps_set (i := 3) sc_step_cost.nd rfl (Or.inl rfl) (pe_ix ix_list (pe_fld (pv 0) rfl) (pv 1) (fun _ _ => rfl)))
    (pss_cons (ps_if (pt_cmpR op_in_seq (pe_fld (pv 3) rfl) (pe_tup (pa_cons (pe_gi (i_NO_GROUP T)) (pa_cons (pv 2) pa_nil))) rfl) (pss_one (ps_ret (pe_fld (pv 3) rfl))) pss_nil)
    (pss_one (ps_ret (pe_op op_add (pe_fld (pv 3) rfl) (pe_mt c_Plan_setup hr (by decide) passL (pv 0) (pa_cons (pe_fld (pv 3) rfl) pa_nil))))))), ?_⟩
  · obtain ⟨a, p, n, last, rfl, _⟩ := h
    rfl
  obtain ⟨a, p, n, last, rfl, ⟨g, tl, gs, js, hp⟩, good, hn, q⟩ := h
  obtain ⟨dp, hpa⟩ := hp.at_
  obtain ⟨xt, hxt, dt, nm, bh, h2, h3, h4⟩ := hp.test (job_get hn)
  have jo := good.job n _ (job_get hn)
  walk_at "go"
  refine ⟨_, _, _, _, rfl, rfl, SqL.of hp.ht, atI_nat hxt, ?_⟩
  dsimp only [gName]
  refine tifsS (decide ((Vatsld.jobAt p n).group = none) || decide ((Vatsld.jobAt p n).group = last)) (fun R q => ?_) (fun H1 e1 hb => ?_) (fun H1 e1 hb => ?_)
  · walk_at "go"
    refine ⟨of_decide_eq_true rfl, fun p1 hp1 => ?_⟩
    generalize hH1 : upd H p1 _ = H1
    obtain ⟨e1, hp11⟩ := new_at hp1 hH1
    refine ⟨p1, _, rfl, .inr (.inl (.inl hp11)), rfl, rfl, ?_⟩
    walk_at "go"
    rw [if_neg (by decide)]
    have ei : inV (V.int (gI (Vatsld.jobAt p n).group)) [V.int (-1), V.int (gI last)] = (decide ((Vatsld.jobAt p n).group = none) || decide ((Vatsld.jobAt p n).group = last)) := by
      show ((-1 == gI (Vatsld.jobAt p n).group) || ((gI last == gI (Vatsld.jobAt p n).group) || false)) = _
      rw [Bool.or_false]
      congr 1
      · cases (Vatsld.jobAt p n).group with
        | none => rfl
        | some k => exact beq_eq_false_iff_ne.mpr (show (-1 : Int) ≠ (k : Nat) by omega)
      · rw [Bool.eq_iff_iff, beq_iff_eq, decide_eq_true_iff]
        constructor
        · intro z
          rw [gI_eq, gI_eq] at z
          exact (gInt_inj z).symm
        · intro z
          rw [z]
    rw [ei]
    exact q H1 e1
  · have h21 := e1 _ _ h2
    walk_at "go"
    have ec : Vatsld.costFrom p last n = (Vatsld.jobAt p n).cost := by
      unfold Vatsld.costFrom
      dsimp only
      cases hg : (Vatsld.jobAt p n).group with
      | none => rfl
      | some k =>
        rw [hg] at hb
        dsimp only
        have hb2 : some k = last := by simpa using hb
        rw [if_pos hb2.symm] <;> rfl
    have z := q H1 e1
    rw [ec] at z
    exact z
  · have h21 := e1 _ _ h2
    have hp1 := hp.same e1
    obtain ⟨dp1, hpa1⟩ := hp1.at_
    rw [Bool.or_eq_false_iff] at hb
    have hb1 := of_decide_eq_false hb.1
    have hb2 := of_decide_eq_false hb.2
    obtain ⟨k, hk⟩ : ∃ k, (Vatsld.jobAt p n).group = some k := by
      cases e : (Vatsld.jobAt p n).group with
      | none => exact absurd e hb1
      | some k => exact ⟨k, rfl⟩
    have hkl := jo.gr k hk
    walk_at "go"
    refine ⟨a, p, _, rfl, ⟨g, tl, gs, js, hp1⟩, .inr ?_, ?_⟩
    · rw [hk]
      show (0 : Int) ≤ (k : Nat) ∧ ((k : Nat) : Int) < _
      omega
    · walk_at "go"
      have ec : Vatsld.costFrom p last n = (Vatsld.jobAt p n).cost + setupI p (gI (Vatsld.jobAt p n).group) := by
        unfold Vatsld.costFrom
        dsimp only
        rw [hk] at hb2 ⊢
        dsimp only
        rw [if_neg (fun z => hb2 z.symm)]
        show _ = _ + setupI p (k : Nat)
        rw [setupI_some]
      have z := q H1 e1
      rw [ec, Int.natCast_add] at z
      exact z
def sp_group_behind (K : PySem.W.Frag) : Sp := fun vs H Q _ => ∃ (a : Addr) (p : Vatsld.Plan) (n : Nat) (last : Option Nat), vs = [.ref a, .int n, .int (gI last)] ∧ PlanAt K H a p ∧ n < p.jobs.length ∧ Q (.int (gI (Vatsld.groupAfter p last n))) H
theorem cal_group_behind (T : Tx K mg) : Cal P w K mg base 1 "group_behind" (sp_group_behind K) := by
  obtain ⟨fd, F⟩ := T.def_ 43 (d := d_group_behind) rfl
  refine cal_of F (g_group_behind T) sc_group_behind (fun _ _ _ _ _ _ us hl => match us, hl with | [_, _, _], _ => rfl) (fun vs H Q E h => ?_) fun cdv A outer s H vs Q E hr h => ⟨_, (pss_one (ps_ret (pe_ifExp (pt_cmpR op_eq (pe_fld (pe_ix ix_list (pe_fld (pv 0) rfl) (pv 1) (fun _ _ => rfl)) rfl) (pe_gi (i_NO_GROUP T)) (nomark _)) (pv 2) (pe_fld (pe_ix ix_list (pe_fld (pv 0) rfl) (pv 1) (fun _ _ => rfl)) rfl)))), ?_⟩
  · obtain ⟨a, p, n, last, rfl, _⟩ := h
    rfl
  obtain ⟨a, p, n, last, rfl, ⟨g, tl, gs, js, hp⟩, hn, q⟩ := h
  obtain ⟨dp, hpa⟩ := hp.at_
  obtain ⟨xt, hxt, dt, nm, bh, h2, h3, h4⟩ := hp.test (job_get hn)
  walk_at "go"
  refine ⟨_, _, _, _, rfl, rfl, SqL.of hp.ht, atI_nat hxt, ?_⟩
  walk_at "go"
  refine ⟨rfl, ?_⟩
  walk_at "go"
  unfold Vatsld.groupAfter at q
  rw [dec_int]
  cases hg : (Vatsld.jobAt p n).group with
  | none =>
    rw [hg] at q
    walk_at "go"
    exact q
  | some k =>
    rw [hg] at q
    have e : (gI (some k) == -1) = false := beq_eq_false_iff_ne.mpr (show ((k : Nat) : Int) ≠ -1 by omega)
    rw [e]
    walk_at "go"
    refine ⟨_, _, _, _, rfl, rfl, SqL.of hp.ht, atI_nat hxt, ?_⟩
    walk_at "go"
    rw [hg]
    exact q
def sp_comes_before (K : PySem.W.Frag) : Sp := fun vs H Q _ => ∃ (x y : Addr) (i j : Vatsld.Job), vs = [.ref x, .ref y] ∧ TestAt K H x i ∧ TestAt K H y j ∧ i.cost ≤ 1000 ∧ j.cost ≤ 1000 ∧ Q (.bl (decide (i.chance ≠ 0) && decide (j.chance = 0) || decide (i.cost * j.chance < j.cost * i.chance))) H
theorem cal_comes_before (T : Tx K mg) : Cal P w K mg base 1 "comes_before" (sp_comes_before K) := by
  obtain ⟨fd, F⟩ := T.def_ 52 (d := d_comes_before) rfl
  refine cal_of F (g_comes_before T) sc_comes_before (fun _ _ _ _ _ _ us hl => match us, hl with | [_, _], _ => rfl) (fun vs H Q E h => ?_) fun cdv A outer s H vs Q E hr h => ⟨_, (pss_cons (ps_if (PW.pt (pw_and (pt_cmpR op_ne (pe_fld (pv 0) rfl) pe_int (nomark _)) (pw_and1 (pt_cmpR op_eq (pe_fld (pv 1) rfl) pe_int (nomark _))))) (pss_one (ps_ret pe_bl)) pss_nil)
    (pss_one (ps_ret (pe_cmpR op_lt (pe_op op_mul (pe_fld (pv 0) rfl) (pe_fld (pv 1) rfl)) (pe_op op_mul (pe_fld (pv 1) rfl) (pe_fld (pv 0) rfl)) (nomark _))))), ?_⟩
  · obtain ⟨x, y, i, j, rfl, _⟩ := h
    rfl
  obtain ⟨x, y, i, j, rfl, ⟨dx, nm, bh, h1, h2, h3⟩, ⟨dy, nm', bh', h4, h5, h6⟩, hi, hj, q⟩ := h
  refine tifs (decide (i.chance ≠ 0) && decide (j.chance = 0)) (fun R q => tand _ _ (fun R q => ?_) (fun _ R q => ?_) q) (fun hb => ?_) (fun hb => ?_)
  · walk_at "go"
    refine ⟨rfl, ?_⟩
    walk_at "go"
    rw [show (!decide (V.int ((i.chance : Nat) : Int) = V.int 0)) = decide (i.chance ≠ 0) by rw [show decide (V.int ((i.chance : Nat) : Int) = V.int 0) = decide (i.chance = 0) from dec_nat, ← decide_not]]
    exact q
  · walk_at "go"
    refine ⟨rfl, ?_⟩
    walk_at "go"
    rw [show decide (V.int ((j.chance : Nat) : Int) = V.int 0) = decide (j.chance = 0) from dec_nat]
    exact q
  · rw [hb] at q
    walk_at "go"
    exact q
  · rw [hb] at q
    walk_at "go"
    refine ⟨.inl ⟨by omega, by omega⟩, ?_⟩
    walk_at "go"
    refine ⟨.inl ⟨by omega, by omega⟩, ?_⟩
    walk_at "go"
    have e : decide ((i.cost : Int) * (j.chance : Int) < (j.cost : Int) * (i.chance : Int)) = decide (i.cost * j.chance < j.cost * i.chance) := decide_eq_decide.mpr (by
      rw [← Int.natCast_mul, ← Int.natCast_mul]
      omega)
    rw [Bool.false_or, ← e] at q
    exact q
def sp_may_run (K : PySem.W.Frag) : Sp := fun vs H Q _ => ∃ (a l : Addr) (p : Vatsld.Plan) (done : List Nat), vs = [.ref a, .ref l] ∧ PlanAt K H a p ∧ Good p ∧ (SqL K H l (vN done) ∨ SqT K H l (vN done)) ∧
  ∀ b H', Same H H' → H b = none → H' b = some (.lst (vN (mayRun p done p.jobs.length))) → Q (.ref b) H'
theorem cal_may_run (T : Tx K mg) : Cal P w K mg base 1 "may_run" (sp_may_run K) := by
  obtain ⟨fd, F⟩ := T.def_ 46 (d := d_may_run) rfl
  refine cal_of F (g_may_run T) sc_may_run (fun _ _ _ _ _ _ us hl => match us, hl with | [_, _], _ => rfl) (fun vs H Q E h => ?_) fun cdv A outer s H vs Q E hr h => ⟨_, (pss_cons (ps_set (i := 2) sc_may_run.nd rfl (Or.inl rfl) (pe_lst pa_nil))
    (pss_cons (ps_for (passes_of rfl) rfl (pi_enum (by rfl) (f_enumerate T) (pa_cons (pe_fld (pv 0) rfl) pa_nil)) (pg_tupK (K := K) (n := 2) rfl rfl (pgs_cons (pg_name (i := 3) sc_may_run.nd rfl (Or.inl rfl)) (pgs_cons (pg_name (i := 4) sc_may_run.nd rfl (Or.inl rfl)) pgs_nil))) (pss_one (ps_if (PW.pt (pw_and (pt_cmpR op_notIn_seq (pv 3) (pv 1) rfl) (pw_and1 (pt_cmpR (op_eqD hr.units) (pe_lc (own := [("own", 5)]) rfl sc_may_run.nd (pi_list (pe_fld (pv 4) rfl)) (blkOk_by (own := [("own", 5)]) (N := N_may_run) (sc := defScope s_may_run) (by decide +kernel)) (fun _ _ _ _ _ => by exact (pg_name (i := 5) sc_may_run.nd rfl (Or.inl rfl))) (fun _ _ _ _ _ => by exact (pts_one (pt_cmpR (op_notIn_seqK (K := K) rfl) (pv 5) (pv 1) rfl))) (fun _ _ _ _ _ => by exact (pv 5))) (pe_lst pa_nil) (nomark _))))) (pss_one (ps_expr (pe_bm PySem.F.plainAttrs_list PySem.F.slot_list_append PySem.F.type_list_append mt_append (pv 2) (pa_cons (pv 3) pa_nil)))) pss_nil)))
    (pss_one (ps_ret (pv 2))))), ?_⟩
  · obtain ⟨a, l, p, done, rfl, _⟩ := h
    rfl
  obtain ⟨a, l, p, done, rfl, ⟨g, tl, gs, js, hp⟩, good, hl, q⟩ := h
  have hlS : ∀ H', Same H H' → SqL K H' l (vN done) ∨ SqT K H' l (vN done) := fun H' e => hl.imp (fun z => L2.Same.seq e z) fun z => Same.seqT e z
  walk_at "go"
  refine ⟨Nat.zero_le _, fun f hf => ?_⟩
  have e0 := Same.new (o := .lst []) hf
  have hp0 := hp.same e0
  obtain ⟨dp0, hpa0⟩ := hp0.at_
  dsimp only [gName]
  walk_at "go"
  refine ⟨tl, _, rfl, SqL.of hp0.ht, for_enum (xs := js.map V.ref) (fun i σ H' => (∃ v w, σ = [some (.ref a), some (.ref l), some (.ref f), v, w, none]) ∧ Acc H f (vN (mayRun p done i)) H') ⟨⟨none, none, rfl⟩, Acc.new hf []⟩ ?_ ?_ ?_ ?_⟩
  · rintro i σ H' hi ⟨_, ac⟩
    exact SqL.of (ac.1 _ _ hp.ht)
  · rintro i σ H1 H2 e2 ⟨h1, ac⟩
    exact ⟨h1, ac.same e2⟩
  · rintro i x U σ H1 hx ⟨⟨v, w', rfl⟩, ac⟩ hU
    obtain ⟨ad, had, rfl⟩ := of_vR hx
    have hil : i < p.jobs.length := by
      rw [← hp.lenT]
      exact (List.getElem?_eq_some_iff.mp had).1
    have hp1 := hp.same ac.1
    obtain ⟨xt, hxt, dt, nm, bh, h2, h3, h4⟩ := hp1.test (job_get hil)
    rw [hx] at hxt
    cases hxt
    have jo := good.job i _ (job_get hil)
    have hal := nodup_len i _ jo.nd jo.af
    have hj7 := good.j7
    refine ⟨U, _, rfl, .inl (.inl hU), rfl, _, _, rfl, _, _, rfl, rfl, ?_⟩
    refine tifS (!done.contains i && (Vatsld.jobAt p i).after_.all done.contains) (fun R q => tandS _ _ (fun R q => ?_) (fun _ H2 e2 R q => ?_) q) (fun H2 e2 hb => ?_) (fun H2 e2 hb => ?_)
    · walk_at "go"
      refine ⟨_, _, rfl, hlS _ ac.1, rfl, flat_N _, ?_⟩
      walk_at "go"
      rw [if_pos rfl, in_N]
      exact q H1 (Same.refl _)
    · have h22 := e2 _ _ h2
      have h42 := e2 _ _ h4
      walk_at "go"
      refine ⟨⟨_, SqL.of h42⟩, fun D hD => lcS_list (xs := vN (Vatsld.jobAt p i).after_) (fun k => vN (((Vatsld.jobAt p i).after_.take k).filter fun x => !done.contains x)) hD rfl (SqL.of h42) ?_ ?_⟩
      · intro k y H3 hy ac3
        obtain ⟨m, hm, rfl⟩ := of_vN hy
        have hkl : k < (Vatsld.jobAt p i).after_.length := (List.getElem?_eq_some_iff.mp hm).1
        refine ⟨rfl, ?_⟩
        walk_at "go"
        refine ⟨_, _, rfl, hlS _ (Same.trans ac.1 (Same.trans e2 ac3.1)), rfl, flat_N _, ?_⟩
        walk_at "go"
        rw [if_pos rfl, in_N]
        cases hc : done.contains m with
        | true =>
          show Acc H2 D _ H3
          rw [take_more hm, List.filter_append, List.filter_cons_of_neg (by rw [hc]; decide), List.filter_nil, List.append_nil]
          exact ac3
        | false =>
          walk_at "go"
          refine AddTo.of hD ac3 (Same.refl _) (by rw [take_more hm, List.filter_append, List.filter_cons_of_pos (by rw [hc]; rfl), vN_append] <;> rfl) ?_
          rw [vN_length, sizeLine_eq]
          have z := List.length_filter_le (fun x => !done.contains x) ((Vatsld.jobAt p i).after_.take k)
          rw [List.length_take] at z
          omega
      · intro H3 ac3
        rw [vN_length, List.take_length] at ac3
        walk_at "go"
        refine ⟨Nat.zero_le _, fun p2 hn2 => ?_⟩
        generalize hH4 : upd H3 p2 _ = H4
        obtain ⟨e4, hp2⟩ := new_at hn2 hH4
        refine ⟨_, _, .lst (SqL.of (e4 _ _ ac3.2)) (dp_N _), .lst (SqL.of hp2) (dp_N []), shL_N _, shL_N _, ?_⟩
        rw [eqL_N]
        walk_at "go"
        have eb : decide ((Vatsld.jobAt p i).after_.filter (fun x => !done.contains x) = []) = (Vatsld.jobAt p i).after_.all done.contains := by
          rw [Bool.eq_iff_iff, decide_eq_true_iff, List.filter_eq_nil_iff, List.all_eq_true]
          simp
        rw [eb]
        exact q H4 (Same.trans ac3.1 e4)
    · have ac2 := ac.same e2
      walk_at "go"
      refine ⟨.inl ⟨rfl, _, SqL.of ac2.2⟩, ?_⟩
      walk_at "go"
      refine ⟨_, _, _, rfl, rfl, ac2.2, ?_, ⟨some (.int (i : Nat)), some (.ref ad), rfl⟩, ?_⟩
      · rw [vN_length, sizeLine_eq]
        have z := List.length_filter_le (fun i => !done.contains i && (Vatsld.jobAt p i).after_.all done.contains) (List.range i)
        rw [List.length_range] at z
        unfold mayRun
        omega
      · rw [mayRun_succ, if_pos hb, vN_append]
        exact ac2.put hf _
    · refine ⟨⟨some (.int (i : Nat)), some (.ref ad), rfl⟩, ?_⟩
      rw [mayRun_succ, if_neg (by rw [hb]; decide), List.append_nil]
      exact ac.same e2
  · rintro σ H1 ⟨⟨v, w', rfl⟩, ac⟩
    rw [List.length_map, hp.lenT] at ac
    walk_at "go"
    exact q f H1 ac.1 hf ac.2
end
end
section
local macro_rules | `(tactic| walk_at "v") => `(tactic| refine ⟨_, rfl, ?_⟩)
local macro_rules | `(tactic| walk_at "ii") => `(tactic| refine ⟨_, _, rfl, rfl, ?_⟩)
local macro_rules | `(tactic| walk_at "no") => `(tactic| first | exact n_Plan_groups ‹_› | exact n_Plan_tests ‹_› | exact n_Group_name ‹_› | exact n_Group_cost ‹_› | exact n_Test_name ‹_› | exact n_Test_cost ‹_› | exact n_Test_chance ‹_› | exact n_Test_group ‹_› | exact n_Test_behind ‹_› | exact n_Token_mark ‹_› | exact n_Token_some ‹_› | exact n_Token_place ‹_› | exact n_Reader_text ‹_› | exact n_Reader_at ‹_› | exact n_Reader_seen ‹_› | exact n_Search_plan ‹_› | exact n_Search_known ‹_› | exact n_Desk_plan ‹_›)
local macro_rules | `(tactic| walk_at "cl") => `(tactic| first | exact c_Plan ‹_› | exact c_Test ‹_› | exact c_Group ‹_› | exact c_Token ‹_› | exact c_Reader ‹_› | exact c_Search ‹_› | exact c_Desk ‹_›)
local macro_rules | `(tactic| walk_at "f") => `(tactic| (refine ⟨_, _, _, _, _, rfl, by first | assumption | exact upd_same, ?cl, ?no, rfl, ?_⟩; (case cl => walk_at "cl"); (case no => walk_at "no")))
local macro_rules | `(tactic| walk_at "m") => `(tactic| refine ⟨_, _, _, rfl, by first | assumption | exact upd_same, rfl, ?_⟩)
local macro_rules | `(tactic| walk_at "go") => `(tactic| repeat (first | walk_at "v" | walk_at "ii" | walk_at "f" | walk_at "m"))
local macro_rules | `(tactic| walk_at "s") => `(tactic| (refine ⟨_, _, _, _, rfl, by first | assumption | exact upd_same, ?cl, ?no, of_decide_eq_true rfl, ?_⟩; (case cl => walk_at "cl"); (case no => walk_at "no")))
abbrev N_is_first : List Str := ["plan", "number", "some", "own"]
theorem sc_is_first : FnScope N_is_first ["plan", "number", "some"] (defScope s_is_first) := C8.fnScope_by (by decide +kernel)
abbrev N_rule_order : List Str := ["plan", "found", "some", "number"]
theorem sc_rule_order : FnScope N_rule_order ["plan"] (defScope s_rule_order) := C8.fnScope_by (by decide +kernel)
section
variable {P : Program} {w : World} {K : PySem.W.Frag} {mg : Str → Option Value} {base : Heap}
def sp_is_first (K : PySem.W.Frag) : Sp := fun vs H Q _ => ∃ (a l : Addr) (p : Vatsld.Plan) (n : Nat) (ms : List Nat), vs = [.ref a, .int n, .ref l] ∧ PlanAt K H a p ∧ Good p ∧ n < p.jobs.length ∧ H l = some (.lst (vN ms)) ∧ (∀ m ∈ ms, m < p.jobs.length) ∧ ms.length ≤ 1000 ∧
  ∀ H', Same H H' → Q (.bl (isFst p ms n)) H'
theorem cal_is_first (T : Tx K mg) : Cal P w K mg base 2 "is_first" (sp_is_first K) := by
  have c_comes_before := cal_comes_before (P := P) (w := w) (base := base) T
  obtain ⟨fd, F⟩ := T.def_ 53 (d := d_is_first) rfl
  refine cal_of F (g_is_first T) sc_is_first (fun _ _ _ _ _ _ us hl => match us, hl with | [_, _, _], _ => rfl) (fun vs H Q E h => ?_) fun cdv A outer s H vs Q E hr h => ⟨_, (pss_one (ps_ret (pe_cmpR (op_eqD hr.units) (pe_lc (own := [("own", 3)]) rfl sc_is_first.nd (pi_list (pv 2)) (blkOk_by (own := [("own", 3)]) (N := N_is_first) (sc := defScope s_is_first) (by decide +kernel)) (fun _ _ _ _ _ => by exact (pg_name (i := 3) sc_is_first.nd rfl (Or.inl rfl))) (fun _ _ _ _ _ => by exact (pts_one (PW.pt (pw_and (pt_cmpR op_ne (pv 3) (pv 1) (nomark _)) (pw_and1 (pt_val (pe_c c_comes_before hr (by decide) passL (pa_cons (pe_ix (ix_listK (K := K) rfl) (pe_fldK (K := K) rfl (pv 0) rfl) (pv 3) (fun _ _ => rfl)) (pa_cons (pe_ix (ix_listK (K := K) rfl) (pe_fldK (K := K) rfl (pv 0) rfl) (pv 1) (fun _ _ => rfl)) pa_nil))))))))) (fun _ _ _ _ _ => by exact (pv 3))) (pe_lst pa_nil) (nomark _)))), ?_⟩
  · obtain ⟨a, l, p, n, ms, rfl, _⟩ := h
    rfl
  obtain ⟨a, l, p, n, ms, rfl, ⟨g, tl, gs, js, hp⟩, good, hn, hl, hms, hz, q⟩ := h
  walk_at "go"
  refine ⟨⟨_, SqL.of hl⟩, fun D hD => lcS_list (xs := vN ms) (fun k => vN ((ms.take k).filter fun o => decide (o ≠ n) && bef p o n)) hD rfl (SqL.of hl) ?_ ?_⟩
  · intro k y H1 hy ac
    obtain ⟨m, hm, rfl⟩ := of_vN hy
    have hml := hms m (List.mem_of_getElem? hm)
    have hkl : k < ms.length := (List.getElem?_eq_some_iff.mp hm).1
    have hp1 := hp.same ac.1
    obtain ⟨dp1, hpa1⟩ := hp1.at_
    obtain ⟨xm, hxm, tm⟩ := hp1.test (job_get hml)
    obtain ⟨xn, hxn, tn⟩ := hp1.test (job_get hn)
    have hmj := good.job m _ (job_get hml)
    have hnj := good.job n _ (job_get hn)
    have key : ∀ b, b = (decide (m ≠ n) && bef p m n) → (if b = true then tVar 3 ([some (.ref a), some (.int (n : Nat)), some (.ref l), some (.int (m : Nat))] : L2.St) H1 (AddTo H D (vN ((ms.take (k + 1)).filter fun o => decide (o ≠ n) && bef p o n))) else Acc H D (vN ((ms.take (k + 1)).filter fun o => decide (o ≠ n) && bef p o n)) H1) := by
      rintro b rfl
      cases hc : (decide (m ≠ n) && bef p m n) with
      | false =>
        rw [if_neg (by decide), take_more hm, List.filter_append, List.filter_cons_of_neg (by rw [hc]; decide), List.filter_nil, List.append_nil]
        exact ac
      | true =>
        rw [if_pos rfl]
        refine ⟨_, rfl, AddTo.of hD ac (Same.refl _) (by rw [take_more hm, List.filter_append, List.filter_cons_of_pos (p := fun o => decide (o ≠ n) && bef p o n) hc, vN_append] <;> rfl) ?_⟩
        rw [vN_length, sizeLine_eq]
        have z := List.length_filter_le (fun o => decide (o ≠ n) && bef p o n) (ms.take k)
        rw [List.length_take] at z
        omega
    refine ⟨rfl, ?_⟩
    refine tand (decide (m ≠ n)) (bef p m n) (fun R q => ?_) (fun _ R q => ?_) (key _ rfl)
    · walk_at "go"
      refine ⟨rfl, ?_⟩
      walk_at "go"
      rw [dec_nat, ← decide_not]
      exact q
    · walk_at "go"
      refine ⟨_, _, _, _, rfl, rfl, SqL.of hp1.ht, atI_nat hxm, ?_⟩
      walk_at "go"
      refine ⟨_, _, _, _, rfl, rfl, SqL.of hp1.ht, atI_nat hxn, ?_⟩
      refine ⟨xm, xn, _, _, rfl, tm, tn, hmj.c2, hnj.c2, ?_⟩
      exact ⟨_, rfl, q⟩
  · intro H1 ac
    rw [vN_length, List.take_length] at ac
    walk_at "go"
    refine ⟨Nat.zero_le _, fun p2 hn2 => ?_⟩
    generalize hH4 : upd H1 p2 _ = H2
    obtain ⟨e2, hp2⟩ := new_at hn2 hH4
    refine ⟨_, _, .lst (SqL.of (e2 _ _ ac.2)) (dp_N _), .lst (SqL.of hp2) (dp_N []), shL_N _, shL_N _, ?_⟩
    rw [eqL_N]
    exact q H2 (Same.trans ac.1 e2)
def sp_rule_order (K : PySem.W.Frag) : Sp := fun vs H Q _ => ∃ (a : Addr) (p : Vatsld.Plan), vs = [.ref a] ∧ PlanAt K H a p ∧ Good p ∧ (∀ k, k ≤ p.jobs.length → (ruleUp p k).length = k) ∧
  ∀ b H', Same H H' → H b = none → H' b = some (.lst (vN (ruleUp p p.jobs.length))) → Q (.ref b) H'
theorem cal_rule_order (T : Tx K mg) : Cal P w K mg base 3 "rule_order" (sp_rule_order K) := by
  have c_may_run := cal_may_run (P := P) (w := w) (base := base) T
  have c_is_first := cal_is_first (P := P) (w := w) (base := base) T
  obtain ⟨fd, F⟩ := T.def_ 54 (d := d_rule_order) rfl
  refine cal_of F (g_rule_order T) sc_rule_order (fun _ _ _ _ _ _ us hl => match us, hl with | [_], _ => rfl) (fun vs H Q E h => ?_) fun cdv A outer s H vs Q E hr h => ⟨_, (pss_cons (ps_set (i := 1) sc_rule_order.nd rfl (Or.inl rfl) (pe_lst pa_nil))
    (pss_cons (ps_while (passes_of rfl) (pt_cmpR op_lt (pe_callB call_len_seq (by rfl) (f_len T) (by decide +kernel) (pa_cons (pv 1) pa_nil)) (pe_callB call_len_seq (by rfl) (f_len T) (by decide +kernel) (pa_cons (pe_fld (pv 0) rfl) pa_nil)) (nomark _)) (pss_cons (ps_set (i := 2) sc_rule_order.nd rfl (Or.inr rfl) (pe_c c_may_run hr (by decide) passL (pa_cons (pv 0) (pa_cons (pv 1) pa_nil))))
    (pss_one (ps_expr (pe_bm PySem.F.plainAttrs_list PySem.F.slot_list_append PySem.F.type_list_append mt_append (pv 1) (by exact (pa_cons (pe_ix ix_list (pe_lc (own := [("number", 3)]) rfl sc_rule_order.nd (pi_list (pv 2)) (blkOk_by (own := [("number", 3)]) (N := N_rule_order) (sc := defScope s_rule_order) (by decide +kernel)) (fun _ _ _ _ _ => by exact (pg_name (i := 3) sc_rule_order.nd rfl (Or.inl rfl))) (fun _ _ _ _ _ => by exact (pts_one (pt_val (pe_c c_is_first hr (by decide) passL (pa_cons (pv 0) (pa_cons (pv 3) (pa_cons (pv 2) pa_nil))))))) (fun _ _ _ _ _ => by exact (pv 3))) pe_int (fun _ _ => rfl)) pa_nil)))))))
    (pss_one (ps_ret (pv 1))))), ?_⟩
  · obtain ⟨a, p, rfl, _⟩ := h
    rfl
  obtain ⟨a, p, rfl, ⟨g, tl, gs, js, hp⟩, good, hru, q⟩ := h
  have hj7 := good.j7
  walk_at "go"
  refine ⟨Nat.zero_le _, fun f hf => ?_⟩
  dsimp only [gName]
  refine while_to (fun σ H' => (∃ v w, σ = [some (.ref a), some (.ref f), v, w]) ∧ ∃ k, k ≤ p.jobs.length ∧ Acc H f (vN (ruleUp p k)) H') (fun σ H' => (∃ v w, σ = [some (.ref a), some (.ref f), v, w]) ∧ Acc H f (vN (ruleUp p p.jobs.length)) H')
    (fun _ H' => match H' f with
      | some (.lst xs) => 8 - xs.length
      | _ => 0) ⟨⟨_, _, rfl⟩, 0, Nat.zero_le _, Acc.new hf []⟩ ?_ ?_
  · rintro Nx hNx σ H1 ⟨⟨v, w', rfl⟩, k, hk, ac⟩
    have hac := ac.2
    have hp1 := hp.same ac.1
    obtain ⟨dp1, hpa1⟩ := hp1.at_
    have hkl := hru k hk
    walk_at "go"
    refine ⟨_, _, rfl, .inl (SqL.of ac.2), ?_⟩
    walk_at "go"
    refine ⟨_, _, rfl, .inl (SqL.of hp1.ht), ?_⟩
    walk_at "go"
    rw [vN_length, hkl, List.length_map, hp1.lenT, show decide ((k : Int) < (p.jobs.length : Nat)) = decide (k < p.jobs.length) from decide_eq_decide.mpr (by omega)]
    by_cases hlt : k < p.jobs.length
    · rw [decide_eq_true hlt]
      refine turn ?_
      walk_at "go"
      refine ⟨a, f, p, ruleUp p k, rfl, ⟨g, tl, gs, js, hp1⟩, good, .inl (SqL.of ac.2), fun b H2 e2 hnb hb => ?_⟩
      have ac2 := ac.same e2
      have hms : ∀ m ∈ mayRun p (ruleUp p k) p.jobs.length, m < p.jobs.length := fun m hm => mayRun_lt hm
      have hml : (mayRun p (ruleUp p k) p.jobs.length).length ≤ 7 := by
        have z := List.length_filter_le (fun i => !(ruleUp p k).contains i && (Vatsld.jobAt p i).after_.all (ruleUp p k).contains) (List.range p.jobs.length)
        rw [List.length_range] at z
        unfold mayRun
        omega
      have hr1 := hru (k + 1) hlt
      have hup : ruleUp p (k + 1) = ruleUp p k ++ ((mayRun p (ruleUp p k) p.jobs.length).filter fun n => isFst p (mayRun p (ruleUp p k) p.jobs.length) n).take 1 := rfl
      generalize mayRun p (ruleUp p k) p.jobs.length = ms at hb hms hml hup
      dsimp only [gName]
      walk_at "go"
      refine ⟨.inl ⟨rfl, _, SqL.of ac2.2⟩, ?_⟩
      walk_at "go"
      refine ⟨⟨_, SqL.of hb⟩, fun D hD => lcS_list (xs := vN ms) (fun i => vN ((ms.take i).filter fun n => isFst p ms n)) hD rfl (SqL.of hb) ?_ ?_⟩
      · intro i y H3 hy ac3
        obtain ⟨m, hm, rfl⟩ := of_vN hy
        have hml2 := hms m (List.mem_of_getElem? hm)
        have hil : i < ms.length := (List.getElem?_eq_some_iff.mp hm).1
        have hp3 := hp.same (Same.trans ac2.1 ac3.1)
        refine ⟨rfl, ?_⟩
        walk_at "go"
        refine ⟨a, b, p, m, ms, rfl, ⟨g, tl, gs, js, hp3⟩, good, hml2, ac3.1 _ _ hb, hms, by omega, fun H4 e4 => ?_⟩
        have ac4 := ac3.same e4
        walk_at "go"
        cases hc : isFst p ms m with
        | false =>
          show Acc H2 D _ H4
          rw [take_more hm, List.filter_append, List.filter_cons_of_neg (by rw [hc]; decide), List.filter_nil, List.append_nil]
          exact ac4
        | true =>
          walk_at "go"
          refine AddTo.of hD ac4 (Same.refl _) (by rw [take_more hm, List.filter_append, List.filter_cons_of_pos hc, vN_append] <;> rfl) ?_
          rw [vN_length, sizeLine_eq]
          have z := List.length_filter_le (fun n => isFst p ms n) (ms.take i)
          rw [List.length_take] at z
          omega
      · intro H3 ac3
        rw [vN_length, List.take_length] at ac3
        cases hfl : ms.filter fun n => isFst p ms n with
        | nil =>
          rw [hfl, List.take_nil, List.append_nil] at hup
          rw [hup, hkl] at hr1
          omega
        | cons n0 r =>
          rw [hfl] at ac3 hup
          have ac23 := ac2.same ac3.1
          walk_at "go"
          refine ⟨_, _, _, _, rfl, rfl, SqL.of ac3.2, atI_nat (j := 0) (vN_get (n := n0) rfl), ?_⟩
          refine ⟨_, _, _, rfl, rfl, ac23.2, by rw [vN_length, hkl, sizeLine_eq]; omega, ⟨⟨_, _, rfl⟩, k + 1, hlt, ?_⟩, ?_⟩
          · rw [hup, vN_append]
            exact ac23.put hf _
          · dsimp only
            rw [upd_same, hac]
            dsimp only
            rw [List.length_append, vN_length, hkl, List.length_singleton]
            omega
    · rw [decide_eq_false hlt]
      have hkn : k = p.jobs.length := by omega
      subst hkn
      exact hNx _ _ ⟨⟨_, _, rfl⟩, ac⟩
  · rintro σ H1 ⟨⟨v, w', rfl⟩, ac⟩
    walk_at "go"
    exact q f H1 ac.1 hf ac.2
end
end
section
local macro_rules | `(tactic| walk_at "v") => `(tactic| refine ⟨_, rfl, ?_⟩)
local macro_rules | `(tactic| walk_at "ii") => `(tactic| refine ⟨_, _, rfl, rfl, ?_⟩)
local macro_rules | `(tactic| walk_at "no") => `(tactic| first | exact n_Plan_groups ‹_› | exact n_Plan_tests ‹_› | exact n_Group_name ‹_› | exact n_Group_cost ‹_› | exact n_Test_name ‹_› | exact n_Test_cost ‹_› | exact n_Test_chance ‹_› | exact n_Test_group ‹_› | exact n_Test_behind ‹_› | exact n_Token_mark ‹_› | exact n_Token_some ‹_› | exact n_Token_place ‹_› | exact n_Reader_text ‹_› | exact n_Reader_at ‹_› | exact n_Reader_seen ‹_› | exact n_Search_plan ‹_› | exact n_Search_known ‹_› | exact n_Desk_plan ‹_›)
local macro_rules | `(tactic| walk_at "cl") => `(tactic| first | exact c_Plan ‹_› | exact c_Test ‹_› | exact c_Group ‹_› | exact c_Token ‹_› | exact c_Reader ‹_› | exact c_Search ‹_› | exact c_Desk ‹_›)
local macro_rules | `(tactic| walk_at "f") => `(tactic| (refine ⟨_, _, _, _, _, rfl, by first | assumption | exact upd_same, ?cl, ?no, rfl, ?_⟩; (case cl => walk_at "cl"); (case no => walk_at "no")))
local macro_rules | `(tactic| walk_at "m") => `(tactic| refine ⟨_, _, _, rfl, by first | assumption | exact upd_same, rfl, ?_⟩)
local macro_rules | `(tactic| walk_at "go") => `(tactic| repeat (first | walk_at "v" | walk_at "ii" | walk_at "f" | walk_at "m"))
local macro_rules | `(tactic| walk_at "s") => `(tactic| (refine ⟨_, _, _, _, rfl, by first | assumption | exact upd_same, ?cl, ?no, of_decide_eq_true rfl, ?_⟩; (case cl => walk_at "cl"); (case no => walk_at "no")))
abbrev N_is_order : List Str := ["plan", "numbers", "at", "number", "own"]
theorem sc_is_order : FnScope N_is_order ["plan", "numbers"] (defScope s_is_order) := C8.fnScope_by (by decide +kernel)
abbrev N_expected : List Str := ["plan", "order", "costs", "group", "number", "found", "at"]
theorem sc_expected : FnScope N_expected ["plan", "order"] (defScope s_expected) := C8.fnScope_by (by decide +kernel)
def dI (l : List Int) : List PyData := l.map fun n : Int => .int n
theorem dp_I {K : PySem.W.Frag} {H : Hp} : ∀ l : List Int, DpAll K H (l.map V.int) (dI l)
  | [] => .nil
  | n :: l => .cons (.int _) (dp_I l)
theorem eq_I : ∀ a b : List Int, PyData.eqvAll (dI a) (dI b) = decide (a = b)
  | [], [] => by simp [dI, PyData.eqvAll]
  | [], _ :: _ => by simp [dI, PyData.eqvAll]
  | _ :: _, [] => by simp [dI, PyData.eqvAll]
  | x :: a, y :: b => by
    show PyData.eqvAll (.int x :: dI a) (.int y :: dI b) = _
    rw [PyData.eqvAll, eq_I a b, PyData.eqv]
    by_cases h : x = y
    · subst h
      simp
    · have e : (x == y) = false := beq_eq_false_iff_ne.mpr h
      rw [e]
      simp [h]
theorem can_I : ∀ l : List Int, PyData.canLayAll0 (dI l) = true
  | [] => by simp [dI, PyData.canLayAll0]
  | n :: l => by
    show PyData.canLayAll0 (.int n :: dI l) = true
    rw [PyData.canLayAll0, can_I l]
    simp [PyData.canLay0]
theorem dep_I : ∀ l : List Int, PyData.depthAll (dI l) = 0
  | [] => by simp [dI, PyData.depthAll]
  | n :: l => by
    show PyData.depthAll (.int n :: dI l) = 0
    rw [PyData.depthAll, dep_I l]
    simp [PyData.depth]
theorem shL_I (l : List Int) : SeqAt.shaped (.list (dI l)) = true := by
  unfold SeqAt.shaped
  rw [PyData.canLay0, can_I, PyData.depth, dep_I] <;> rfl
theorem eqL_I (a b : List Int) : PyData.eqv (.list (dI a)) (.list (dI b)) = decide (a = b) := by
  rw [PyData.eqv, eq_I]
theorem rgV_I (n : Nat) : rgV 0 (n : Nat) = (rangeI n).map V.int := by
  unfold rgV rangeI
  rw [List.map_map, show ((n : Int) - 0).toNat = n by omega]
  refine List.map_congr_left fun i _ => ?_
  show V.int (0 + (i : Nat)) = V.int (i : Nat)
  rw [Int.zero_add]
theorem cut_N0 {l : List Nat} {e : Nat} (h2 : e ≤ l.length) : cutV (vN l) none (some (e : Int)) = vN (l.take e) := by
  unfold cutV
  rw [HT.sIx_nat, vN_length, Nat.min_eq_left h2]
  unfold vN
  show ((List.map _ l).drop 0).take (e - 0) = _
  rw [List.drop_zero, Nat.sub_zero, List.map_take]
/-- for x in range(lo, .., c) -/
theorem for_rangeC {lo c : Int} {n : Nat} {g : TG} {tb : TS} {D : Ends} {σ : L2.St} {H : Hp} (Pv : Nat → L2.St → Hp → Prop) (h0 : Pv 0 σ H)
    (hs : ∀ i σ H, i < n → Pv i σ H → g (.int (lo + (i : Nat) * c)) σ H fun σ2 H2 => tb { D with nx := Pv (i + 1), ct := Pv (i + 1), bk := D.nx } σ2 H2) (hd : ∀ σ H, Pv n σ H → D.nx σ H) :
    ∃ W : Nat → Nat → L2.St → Hp → Prop, (∃ m, W 0 m σ H) ∧ ∀ i m σ H, W i m σ H →
      ((Itc lo c n).stop i H ∧ D.nx σ H) ∨ ((Itc lo c n).go i H ∧ ∃ N : L2.St → Hp → Prop, (∀ σ' H', N σ' H' → ∃ m', m' < m ∧ W (i + 1) m' σ' H') ∧ ∀ x H', (Itc lo c n).yld i H x H' → g x σ H' fun σ2 H2 => tb { D with nx := N, ct := N, bk := D.nx } σ2 H2) := by
  refine ⟨fun i m σ H => m = n - i ∧ i ≤ n ∧ Pv i σ H, ⟨n, by simp, Nat.zero_le _, h0⟩, ?_⟩
  rintro i m σ H ⟨rfl, hi, p⟩
  by_cases hlt : i < n
  · refine .inr ⟨hlt, Pv (i + 1), fun σ' H' p' => ⟨n - (i + 1), by omega, rfl, hlt, p'⟩, fun x H' y => ?_⟩
    obtain ⟨rfl, rfl⟩ := y
    exact hs i σ _ hlt p
  · have e : i = n := by omega
    subst e
    exact .inl ⟨Nat.le_refl _, hd σ H p⟩
section
variable {P : Program} {w : World} {K : PySem.W.Frag} {mg : Str → Option Value} {base : Heap}
def sp_is_order (K : PySem.W.Frag) : Sp := fun vs H Q _ => ∃ (a l : Addr) (p : Vatsld.Plan) (ns : List Int), vs = [.ref a, .ref l] ∧ PlanAt K H a p ∧ Good p ∧ SqL K H l (ns.map V.int) ∧
  ∀ H', Same H H' → Q (.bl (Vatsld.isRow p.jobs.length ns && Vatsld.isOrder p (Vatsld.toNats ns))) H'
theorem cal_is_order (T : Tx K mg) : Cal P w K mg base 1 "is_order" (sp_is_order K) := by
  obtain ⟨fd, F⟩ := T.def_ 44 (d := d_is_order) rfl
  refine cal_of F (g_is_order T) sc_is_order (fun _ _ _ _ _ _ us hl => match us, hl with | [_, _], _ => rfl) (fun vs H Q E h => ?_) fun cdv A outer s H vs Q E hr h => ⟨_, (pss_cons (ps_if (pt_cmpR (op_neD hr.units) (pe_callB cr_sortedI (by rfl) (f_sorted T) (by decide +kernel) (pa_cons (pv 1) pa_nil)) (pe_listRg rfl rfl (f_list T) (prg_1 rfl (f_range T) (pe_callB call_len_seq (by rfl) (f_len T) (by decide +kernel) (pa_cons (pe_fld (pv 0) rfl) pa_nil)))) (nomark _)) (pss_one (ps_ret pe_bl)) pss_nil)
    (pss_cons (ps_for (passes_of rfl) rfl (pi_enum (by rfl) (f_enumerate T) (pa_cons (pv 1) pa_nil)) (pg_tupK (K := K) (n := 2) rfl rfl (pgs_cons (pg_name (i := 2) sc_is_order.nd rfl (Or.inr rfl)) (pgs_cons (pg_name (i := 3) sc_is_order.nd rfl (Or.inl rfl)) pgs_nil))) (pss_one (ps_if (pt_cmpR (op_neD hr.units) (pe_lc (own := [("own", 4)]) rfl sc_is_order.nd (pi_list (pe_fld (pe_ix ix_list (pe_fld (pv 0) rfl) (pv 3) (fun _ _ => rfl)) rfl)) (blkOk_by (own := [("own", 4)]) (N := N_is_order) (sc := defScope s_is_order) (by decide +kernel)) (fun _ _ _ _ _ => by exact (pg_name (i := 4) sc_is_order.nd rfl (Or.inl rfl))) (fun _ _ _ _ _ => by exact (pts_one (pt_cmpR (op_notIn_seqK (K := K) rfl) (pv 4) (pe_slice (sl_listK (K := K) rfl) (pv 1) po_none (po_some (pv 2))) rfl))) (fun _ _ _ _ _ => by exact (pv 4))) (pe_lst pa_nil) (nomark _)) (pss_one (ps_ret pe_bl)) pss_nil)))
    (pss_one (ps_ret pe_bl)))), ?_⟩
  · obtain ⟨a, l, p, ns, rfl, _⟩ := h
    rfl
  obtain ⟨a, l, p, ns, rfl, ⟨g, tl, gs, js, hp⟩, good, hl, q⟩ := h
  obtain ⟨dp, hpa⟩ := hp.at_
  have hj7 := good.j7
  obtain ⟨c0, hc0⟩ : ∃ c0, (Vatsld.isRow p.jobs.length ns && ((Vatsld.toNats ns).length == p.jobs.length && (List.range p.jobs.length).all (Vatsld.toNats ns).contains)) = c0 := ⟨_, rfl⟩
  refine tifsS (!c0) (fun R q => ?_) (fun H1 e1 hb => ?_) (fun H1 e1 hb => ?_)
  · walk_at "go"
    refine ⟨l, ns, rfl, hl, fun ns' x hpm hso hx => ?_⟩
    generalize hH1 : upd H x _ = H1
    obtain ⟨e1, hx1⟩ := new_at hx hH1
    have hpa1 := e1 _ _ hpa
    have hp1 := hp.same e1
    walk_at "go"
    refine ⟨tl, _, rfl, .inl (SqL.of hp1.ht), ?_⟩
    refine ⟨_, rfl, ?_⟩
    rw [List.length_map, hp1.lenT]
    refine ⟨RgOk.of_le (by omega) (by omega) (by omega) (by omega), fun y hy => ?_⟩
    generalize hH2 : upd H1 y _ = H2
    obtain ⟨e2, hy2⟩ := new_at hy hH2
    rw [rgV_I] at hy2
    refine ⟨_, _, .lst (SqL.of (e2 _ _ hx1)) (dp_I _), .lst (SqL.of hy2) (dp_I _), shL_I _, shL_I _, ?_⟩
    rw [eqL_I, order_first hpm hso, hc0]
    exact ⟨_, rfl, q H2 (Same.trans e1 e2)⟩
  · cases c0 with
    | true => cases hb
    | false =>
      walk_at "go"
      have z := q H1 e1
      rw [isOrder_up, ← Bool.and_assoc, hc0, Bool.false_and] at z
      exact z
  · have hb : c0 = true := by
      cases c0 with
      | true => rfl
      | false => cases hb
    rw [hb, Bool.and_eq_true, Bool.and_eq_true, beq_iff_eq] at hc0
    obtain ⟨hrow, hlen, hall⟩ := hc0
    obtain ⟨hns, hlt⟩ := row_nats hrow
    have hq : ∀ H', Same H H' → Q (.bl (ordUp p (Vatsld.toNats ns) (Vatsld.toNats ns).length)) H' := fun H' e' => by
      have z := q H' e'
      rw [isOrder_up, hrow, hlen, hall, beq_self_eq_true, Bool.true_and, Bool.true_and, Bool.true_and] at z
      rw [hlen]
      exact z
    have hl1 : SqL K H l (vN (Vatsld.toNats ns)) := by
      rw [hns] at hl
      rw [vN_eq]
      exact hl
    generalize Vatsld.toNats ns = o at hlen hlt hq hl1
    walk_at "go"
    refine ⟨l, _, rfl, L2.Same.seq e1 hl1, for_enum (xs := vN o) (fun i σ H' => (∃ v w, σ = [some (.ref a), some (.ref l), v, w, none]) ∧ Same H H' ∧ ordUp p o i = true) ⟨⟨none, none, rfl⟩, e1, rfl⟩ ?_ ?_ ?_ ?_⟩
    · rintro i σ H' hi ⟨_, e, _⟩
      exact L2.Same.seq e hl1
    · rintro i σ H2 H3 e2 ⟨h1, e, h2⟩
      exact ⟨h1, Same.trans e e2, h2⟩
    · rintro i x U σ H2 hx ⟨⟨v, w', rfl⟩, e2, hup⟩ hU
      obtain ⟨n, hn, rfl⟩ := of_vN hx
      have hil : i < o.length := (List.getElem?_eq_some_iff.mp hn).1
      have hnl := hlt n (List.mem_of_getElem? hn)
      have hp2 := hp.same e2
      obtain ⟨dp2, hpa2⟩ := hp2.at_
      obtain ⟨xt, hxt, dt, nm, bh, h2, h3, h4⟩ := hp2.test (job_get hnl)
      have jo := good.job n _ (job_get hnl)
      have hal := nodup_len n _ jo.nd jo.af
      have hus := ordUp_succ p o i hn
      rw [hup, Bool.true_and] at hus
      refine ⟨U, _, rfl, .inl (.inl hU), rfl, _, _, rfl, _, _, rfl, rfl, ?_⟩
      refine tifS (!(Vatsld.jobAt p n).after_.all (o.take i).contains) (fun R q => ?_) (fun H3 e3 hb => ?_) (fun H3 e3 hb => ?_)
      · walk_at "go"
        refine ⟨_, _, _, _, rfl, rfl, SqL.of hp2.ht, atI_nat hxt, ?_⟩
        walk_at "go"
        refine ⟨⟨_, SqL.of h4⟩, fun D hD => lcS_list (xs := vN (Vatsld.jobAt p n).after_) (fun k => vN (((Vatsld.jobAt p n).after_.take k).filter fun x => !(o.take i).contains x)) hD rfl (SqL.of h4) ?_ ?_⟩
        · intro k y H3 hy ac
          obtain ⟨m, hm, rfl⟩ := of_vN hy
          have hkl : k < (Vatsld.jobAt p n).after_.length := (List.getElem?_eq_some_iff.mp hm).1
          refine ⟨rfl, ?_⟩
          walk_at "go"
          refine ⟨_, _, rfl, L2.Same.seq (Same.trans e2 ac.1) hl1, fun q5 hn5 => ?_⟩
          generalize hH5 : upd H3 q5 _ = H5
          obtain ⟨e5, hq5⟩ := new_at hn5 hH5
          dsimp only
          rw [cut_N0 (Nat.le_of_lt hil)] at hq5
          have ac5 := ac.same e5
          refine ⟨_, _, rfl, .inl (SqL.of hq5), rfl, flat_N _, ?_⟩
          walk_at "go"
          rw [if_pos rfl, in_N]
          cases hc : (o.take i).contains m with
          | true =>
            show Acc H2 D _ H5
            rw [take_more hm, List.filter_append, List.filter_cons_of_neg (by rw [hc]; decide), List.filter_nil, List.append_nil]
            exact ac5
          | false =>
            walk_at "go"
            refine AddTo.of hD ac5 (Same.refl _) (by rw [take_more hm, List.filter_append, List.filter_cons_of_pos (by rw [hc]; rfl), vN_append] <;> rfl) ?_
            rw [vN_length, sizeLine_eq]
            have z := List.length_filter_le (fun x => !(o.take i).contains x) ((Vatsld.jobAt p n).after_.take k)
            rw [List.length_take] at z
            omega
        · intro H3 ac
          rw [vN_length, List.take_length] at ac
          walk_at "go"
          refine ⟨Nat.zero_le _, fun p2 hn2 => ?_⟩
          generalize hH4 : upd H3 p2 _ = H4
          obtain ⟨e4, hp22⟩ := new_at hn2 hH4
          refine ⟨_, _, .lst (SqL.of (e4 _ _ ac.2)) (dp_N _), .lst (SqL.of hp22) (dp_N []), shL_N _, shL_N _, ?_⟩
          rw [eqL_N]
          walk_at "go"
          have eb : (!decide ((Vatsld.jobAt p n).after_.filter (fun x => !(o.take i).contains x) = [])) = !(Vatsld.jobAt p n).after_.all (o.take i).contains := by
            congr 1
            rw [Bool.eq_iff_iff, decide_eq_true_iff, List.filter_eq_nil_iff, List.all_eq_true]
            simp
          rw [eb]
          exact q H4 (Same.trans ac.1 e4)
      · walk_at "go"
        have z := hq H3 (Same.trans e2 e3)
        rw [ordUp_false (k := i + 1) (by rw [hus]; simpa using hb) _ hil] at z
        exact z
      · refine ⟨⟨some (.int (i : Nat)), some (.int n), rfl⟩, Same.trans e2 e3, ?_⟩
        rw [hus]
        simpa using hb
    · rintro σ H2 ⟨⟨v, w', rfl⟩, e2, hup⟩
      rw [vN_length] at hup
      walk_at "go"
      have z := hq H2 e2
      rw [hup] at z
      exact z
def sp_expected (K : PySem.W.Frag) : Sp := fun vs H Q _ => ∃ (a l : Addr) (p : Vatsld.Plan) (o : List Nat), vs = [.ref a, .ref l] ∧ PlanAt K H a p ∧ Good p ∧ SqL K H l (vN o) ∧ (∀ n ∈ o, n < p.jobs.length) ∧ o.length ≤ 7 ∧
  ∀ H', Same H H' → Q (.int (Vatsld.expectedOf p o : Nat)) H'
theorem cal_expected (T : Tx K mg) : Cal P w K mg base 3 "expected" (sp_expected K) := by
  have c_step_cost := cal_step_cost (P := P) (w := w) (base := base) T
  have c_group_behind := cal_group_behind (P := P) (w := w) (base := base) T
  have c_scaled := cal_scaled (P := P) (w := w) (base := base) T
  obtain ⟨fd, F⟩ := T.def_ 45 (d := d_expected) rfl
  refine cal_of F (g_expected T) sc_expected (fun _ _ _ _ _ _ us hl => match us, hl with | [_, _], _ => rfl) (fun vs H Q E h => ?_) fun cdv A outer s H vs Q E hr h => ⟨_, (pss_cons (ps_set (i := 2) sc_expected.nd rfl (Or.inl rfl) (pe_lst pa_nil))
    (pss_cons (ps_set (i := 3) sc_expected.nd rfl (Or.inl rfl) (pe_gi (i_NO_GROUP T)))
    (pss_cons (ps_for (passes_of rfl) rfl (pi_list (pv 1)) (pg_name (i := 4) sc_expected.nd rfl (Or.inl rfl)) (pss_cons (ps_expr (pe_bm PySem.F.plainAttrs_list PySem.F.slot_list_append PySem.F.type_list_append mt_append (pv 2) (pa_cons (pe_c c_step_cost hr (by decide) passL (pa_cons (pv 0) (pa_cons (pv 4) (pa_cons (pv 3) pa_nil)))) pa_nil)))
    (pss_one (ps_set (i := 3) sc_expected.nd rfl (Or.inl rfl) (pe_c c_group_behind hr (by decide) passL (pa_cons (pv 0) (pa_cons (pv 4) (pa_cons (pv 3) pa_nil))))))))
    (pss_cons (ps_set (i := 5) sc_expected.nd rfl (Or.inl rfl) pe_int)
    (pss_cons (ps_for (passes_of rfl) rfl (pi_range3 (by rfl) (f_range T) (pa_cons (pe_op op_sub (pe_callB call_len_seq (by rfl) (f_len T) (by decide +kernel) (pa_cons (pv 1) pa_nil)) pe_int) (pa_cons (pe_un un_neg pe_int) (pa_cons (pe_un un_neg pe_int) pa_nil)))) (pg_name (i := 6) sc_expected.nd rfl (Or.inl rfl)) (pss_one (ps_set (i := 5) sc_expected.nd rfl (Or.inl rfl) (pe_op op_add (pe_c c_scaled hr (by decide) passL (pa_cons (pe_ix ix_list (pv 2) (pv 6) (fun _ _ => rfl)) (pa_cons (pe_op op_sub (pe_callB call_len_seq (by rfl) (f_len T) (by decide +kernel) (pa_cons (pv 1) pa_nil)) (pv 6)) pa_nil))) (pe_op op_mul (pe_op op_sub (pe_gi (i_HUNDRED T)) (pe_fld (pe_ix ix_list (pe_fld (pv 0) rfl) (pe_ix ix_list (pv 1) (pv 6) (fun _ _ => rfl)) (fun _ _ => rfl)) rfl)) (pv 5))))))
    (pss_one (ps_ret (pv 5)))))))), ?_⟩
  · obtain ⟨a, l, p, o, rfl, _⟩ := h
    rfl
  obtain ⟨a, l, p, o, rfl, ⟨g, tl, gs, js, hp⟩, good, hl, hb, h7, q⟩ := h
  walk_at "go"
  refine ⟨Nat.zero_le _, fun f hf => ?_⟩
  have e0 := Same.new (o := .lst []) hf
  dsimp only [gName]
  walk_at "go"
  have csl : ∀ k, (costsUp p o k).length = k := fun k => by unfold costsUp; rw [List.length_map, List.length_range]
  refine ⟨⟨_, L2.Same.seq e0 hl⟩, for_list (xs := vN o) (fun i σ H' => (∃ v, σ = [some (.ref a), some (.ref l), some (.ref f), some (.int (gI (lastAt p o i))), v, none, none]) ∧ Acc H f (vN (costsUp p o i)) H') ⟨⟨none, rfl⟩, Acc.new hf []⟩ ?_ ?_ ?_⟩
  · rintro i σ H' hi ⟨_, ac⟩
    exact L2.Same.seq ac.1 hl
  · rintro i x σ H1 hx ⟨⟨v, rfl⟩, ac⟩
    obtain ⟨n, hn, rfl⟩ := of_vN hx
    have hil : i < o.length := (List.getElem?_eq_some_iff.mp hn).1
    have hnl := hb n (List.mem_of_getElem? hn)
    have hp1 := hp.same ac.1
    walk_at "go"
    refine ⟨.inl ⟨rfl, _, SqL.of ac.2⟩, ?_⟩
    walk_at "go"
    refine ⟨a, p, n, lastAt p o i, rfl, ⟨g, tl, gs, js, hp1⟩, good, hnl, fun H2 e2 => ?_⟩
    have ac2 := ac.same e2
    have hp2 := hp1.same e2
    refine ⟨_, _, _, rfl, rfl, ac2.2, ?_, ?_⟩
    · rw [vN_length, csl, sizeLine_eq]
      omega
    · have ac3 := ac2.put hf (vN (costsUp p o (i + 1)))
      have ec : vN (costsUp p o i) ++ [V.int (Vatsld.costFrom p (lastAt p o i) n : Nat)] = vN (costsUp p o (i + 1)) := by
        rw [costsUp_succ p o i hn, vN_append] <;> rfl
      rw [ec]
      have hp3 := hp.same ac3.1
      generalize upd H2 f _ = H3 at ac3 hp3 ⊢
      walk_at "go"
      refine ⟨a, p, n, lastAt p o i, rfl, ⟨g, tl, gs, js, hp3⟩, hnl, ⟨some (.int n), ?_⟩, ac3⟩
      rw [lastAt_succ p o i hn] <;> rfl
  · rintro σ H1 ⟨⟨v, rfl⟩, ac⟩
    rw [vN_length] at ac
    have hl1 := L2.Same.seq ac.1 hl
    have hp1 := hp.same ac.1
    walk_at "go"
    refine ⟨_, _, rfl, .inl hl1, ?_⟩
    walk_at "go"
    rw [vN_length]
    refine ⟨_, _, _, _, rfl, (show RgC (((o.length : Nat) : Int) - 1) (-1) (-1) o.length by
      have z := RgC.neg (i := ((o.length : Nat) : Int) - 1) (j := -1) (by omega) (by omega) (by omega) (by omega)
      rw [show ((((o.length : Nat) : Int) - 1) - -1).toNat = o.length by omega] at z
      exact z), for_rangeC (fun i σ H' => (∃ v' w', σ = [some (.ref a), some (.ref l), some (.ref f), some (.int (gI (lastAt p o o.length))), v', some (.int (restCost p o (o.length - i) : Nat)), w']) ∧ Same H1 H') ⟨⟨v, none, ?_⟩, Same.refl _⟩ ?_ ?_⟩
    · rw [Nat.sub_zero, restCost_all] <;> rfl
    · rintro i σ H2 hi ⟨⟨v', w', rfl⟩, e2⟩
      obtain ⟨k, hk⟩ : ∃ k, k = o.length - 1 - i := ⟨_, rfl⟩
      have hkl : k < o.length := by omega
      obtain ⟨n, hn⟩ : ∃ n, o[k]? = some n := ⟨_, List.getElem?_eq_getElem hkl⟩
      have hnl := hb n (List.mem_of_getElem? hn)
      have hp2 := hp1.same e2
      obtain ⟨dp2, hpa2⟩ := hp2.at_
      obtain ⟨xt, hxt, dt, nm, bh, h2, h3, h4⟩ := hp2.test (job_get hnl)
      have jo := good.job n _ (job_get hnl)
      have ek : ((o.length : Nat) : Int) - 1 + ((i : Nat) : Int) * -1 = (k : Nat) := by omega
      rw [ek]
      have hcg := costsUp_get p o hkl hn
      walk_at "go"
      refine ⟨_, _, _, _, rfl, rfl, SqL.of (e2 _ _ ac.2), atI_nat (vN_get hcg), ?_⟩
      walk_at "go"
      refine ⟨_, _, rfl, .inl (L2.Same.seq e2 hl1), ?_⟩
      walk_at "go"
      rw [vN_length]
      have en : ((o.length : Nat) : Int) - ((k : Nat) : Int) = ((o.length - k : Nat) : Int) := by omega
      refine ⟨_, o.length - k, (show [V.int _, V.int (((o.length : Nat) : Int) - ((k : Nat) : Int))] = _ by rw [en] <;> rfl), by omega, ?_⟩
      walk_at "go"
      refine ⟨_, _, _, _, rfl, rfl, L2.Same.seq e2 hl1, atI_nat (vN_get hn), ?_⟩
      refine ⟨_, _, _, _, rfl, rfl, SqL.of hp2.ht, atI_nat hxt, ?_⟩
      walk_at "go"
      have ch := jo.ch
      refine ⟨.inl ⟨by omega, by omega⟩, ?_⟩
      walk_at "go"
      refine ⟨⟨v', some (.int (k : Nat)), ?_⟩, e2⟩
      have er := restCost_step p o k hn
      rw [show o.length - (i + 1) = k by omega, er, show o.length - i = k + 1 by omega, Int.natCast_add, Int.natCast_mul, Int.natCast_mul, Int.natCast_pow, show ((100 - (Vatsld.jobAt p n).chance : Nat) : Int) = 100 - ((Vatsld.jobAt p n).chance : Int) by omega] <;> rfl
    · rintro σ H2 ⟨⟨v', w', rfl⟩, e2⟩
      rw [Nat.sub_self, restCost_zero]
      walk_at "go"
      exact q H2 (Same.trans ac.1 e2)
end
end
section
local macro_rules | `(tactic| walk_at "v") => `(tactic| refine ⟨_, rfl, ?_⟩)
local macro_rules | `(tactic| walk_at "ii") => `(tactic| refine ⟨_, _, rfl, rfl, ?_⟩)
local macro_rules | `(tactic| walk_at "no") => `(tactic| first | exact n_Plan_groups ‹_› | exact n_Plan_tests ‹_› | exact n_Group_name ‹_› | exact n_Group_cost ‹_› | exact n_Test_name ‹_› | exact n_Test_cost ‹_› | exact n_Test_chance ‹_› | exact n_Test_group ‹_› | exact n_Test_behind ‹_› | exact n_Token_mark ‹_› | exact n_Token_some ‹_› | exact n_Token_place ‹_› | exact n_Reader_text ‹_› | exact n_Reader_at ‹_› | exact n_Reader_seen ‹_› | exact n_Search_plan ‹_› | exact n_Search_known ‹_› | exact n_Desk_plan ‹_›)
local macro_rules | `(tactic| walk_at "cl") => `(tactic| first | exact c_Plan ‹_› | exact c_Test ‹_› | exact c_Group ‹_› | exact c_Token ‹_› | exact c_Reader ‹_› | exact c_Search ‹_› | exact c_Desk ‹_›)
local macro_rules | `(tactic| walk_at "f") => `(tactic| (refine ⟨_, _, _, _, _, rfl, by first | assumption | exact upd_same, ?cl, ?no, rfl, ?_⟩; (case cl => walk_at "cl"); (case no => walk_at "no")))
local macro_rules | `(tactic| walk_at "m") => `(tactic| refine ⟨_, _, _, rfl, by first | assumption | exact upd_same, rfl, ?_⟩)
local macro_rules | `(tactic| walk_at "go") => `(tactic| repeat (first | walk_at "v" | walk_at "ii" | walk_at "f" | walk_at "m"))
local macro_rules | `(tactic| walk_at "s") => `(tactic| (refine ⟨_, _, _, _, rfl, by first | assumption | exact upd_same, ?cl, ?no, of_decide_eq_true rfl, ?_⟩; (case cl => walk_at "cl"); (case no => walk_at "no")))
abbrev N_time_of : List Str := ["plan", "many", "way", "found", "machine", "number", "own"]
theorem sc_time_of : FnScope N_time_of ["plan", "many", "way"] (defScope s_time_of) := C8.fnScope_by (by decide +kernel)
abbrev N_all_ways : List Str := ["tests", "many", "found", "turn", "longer", "way", "machine"]
theorem sc_all_ways : FnScope N_all_ways ["tests", "many"] (defScope s_all_ways) := C8.fnScope_by (by decide +kernel)
abbrev N_best_way : List Str := ["plan", "many", "best", "least", "way", "time"]
theorem sc_best_way : FnScope N_best_way ["plan", "many"] (defScope s_best_way) := C8.fnScope_by (by decide +kernel)
abbrev N_is_way : List Str := ["plan", "many", "way", "machine"]
theorem sc_is_way : FnScope N_is_way ["plan", "many", "way"] (defScope s_is_way) := C8.fnScope_by (by decide +kernel)
section
variable {P : Program} {w : World} {K : PySem.W.Frag} {mg : Str → Option Value} {base : Heap}
def sp_time_of (K : PySem.W.Frag) : Sp := fun vs H Q _ => ∃ (a l : Addr) (p : Vatsld.Plan) (m : Nat) (way : List Nat), vs = [.ref a, .int m, .ref l] ∧ PlanAt K H a p ∧ Good p ∧ SqL K H l (vN way) ∧ way.length = p.jobs.length ∧ m ≤ 1000 ∧
  ∀ H', Same H H' → Q (.int (Vatsld.timeOf p m way : Nat)) H'
theorem cal_time_of (T : Tx K mg) : Cal P w K mg base 3 "time_of" (sp_time_of K) := by
  have c_Plan_cost_of := met_cost_of (P := P) (w := w) (base := base) T
  obtain ⟨fd, F⟩ := T.def_ 0 (d := d_time_of) rfl
  refine cal_of F (g_time_of T) sc_time_of (fun _ _ _ _ _ _ us hl => match us, hl with | [_, _, _], _ => rfl) (fun vs H Q E h => ?_) fun cdv A outer s H vs Q E hr h => ⟨_, (pss_cons (ps_set (i := 3) sc_time_of.nd rfl (Or.inl rfl) pe_int)
    (pss_cons (ps_for (passes_of rfl) rfl (pi_range1 (by rfl) (f_range T) (pa_cons (pv 1) pa_nil)) (pg_name (i := 4) sc_time_of.nd rfl (Or.inr rfl)) (pss_one (ps_set (i := 3) sc_time_of.nd rfl (Or.inl rfl) (pe_callB (call_max2 rfl) (by rfl) (f_max T) (by decide +kernel) (by exact (pa_cons (pv 3) (pa_cons (pe_mt c_Plan_cost_of hr (by decide) passL (pv 0) (by exact (pa_cons (pe_lc (own := [("number", 5), ("own", 6)]) rfl sc_time_of.nd (pi_enum (by rfl) (f_enumerate T) (pa_cons (pv 2) pa_nil)) (blkOk_by (own := [("number", 5), ("own", 6)]) (N := N_time_of) (sc := defScope s_time_of) (by decide +kernel)) (fun _ _ _ _ _ => by exact (pg_tupK (K := K) (n := 2) rfl rfl (pgs_cons (pg_name (i := 5) sc_time_of.nd rfl (Or.inl rfl)) (pgs_cons (pg_name (i := 6) sc_time_of.nd rfl (Or.inl rfl)) pgs_nil)))) (fun _ _ _ _ _ => by exact (pts_one (pt_cmpR op_eq (pv 6) (pv 4) (nomark _)))) (fun _ _ _ _ _ => by exact (pv 5))) pa_nil))) pa_nil)))))))
    (pss_one (ps_ret (pv 3))))), ?_⟩
  · obtain ⟨a, l, p, m, way, rfl, _⟩ := h
    rfl
  obtain ⟨a, l, p, m, way, rfl, ⟨g, tl, gs, js, hp⟩, good, hl, hw, hm, q⟩ := h
  have hj7 := good.j7
  walk_at "go"
  refine ⟨by omega, by omega, for_range (n := m) (fun i σ H' => (∃ v, σ = [some (.ref a), some (.int m), some (.ref l), some (.int (Vatsld.timeOf p i way : Nat)), v, none, none]) ∧ Same H H') ⟨⟨none, rfl⟩, Same.refl _⟩ ?_ ?_⟩
  · rintro i σ H1 hi ⟨⟨v, rfl⟩, e1⟩
    have hp1 := hp.same e1
    obtain ⟨dp1, hpa1⟩ := hp1.at_
    rw [show (0 : Int) + ((i : Nat) : Int) = (i : Nat) from Int.zero_add _]
    walk_at "go"
    refine ⟨l, _, rfl, L2.Same.seq e1 hl, fun D hD => lcS_enum (xs := vN way) (fun k => vN (mineP way i k)) hD rfl (L2.Same.seq e1 hl) ?_ ?_⟩
    · intro k x U H2 hx ac hU
      obtain ⟨n, hn, rfl⟩ := of_vN hx
      have hkl : k < way.length := (List.getElem?_eq_some_iff.mp hn).1
      have ms := mineP_succ way i k hn
      refine ⟨U, _, rfl, .inl (.inl hU), rfl, _, _, rfl, _, _, rfl, rfl, rfl, ?_⟩
      walk_at "go"
      refine ⟨rfl, ?_⟩
      walk_at "go"
      rw [dec_nat]
      by_cases e : n = i
      · rw [decide_eq_true e]
        rw [if_pos e] at ms
        walk_at "go"
        refine AddTo.of hD ac (Same.refl _) (by rw [ms, vN_append] <;> rfl) ?_
        have z := mineP_len way i k
        rw [vN_length, sizeLine_eq]
        omega
      · rw [decide_eq_false e]
        rw [if_neg e, List.append_nil] at ms
        show Acc H1 D _ H2
        rw [ms]
        exact ac
    · intro H2 ac
      rw [vN_length, hw] at ac
      have hp2 := hp1.same ac.1
      refine ⟨a, D, p, _, rfl, ⟨g, tl, gs, js, hp2⟩, good, SqL.of ac.2, fun k hk => mineP_lt hk, Nat.le_trans (mineP_len way i p.jobs.length) (by omega), fun H3 e3 => ?_⟩
      walk_at "go"
      refine ⟨_, _, rfl, ⟨some (.int (i : Nat)), ?_⟩, Same.trans e1 (Same.trans ac.1 e3)⟩
      rw [timeOf_succ, busy_cost]
      generalize Vatsld.costOf p (mineP way i p.jobs.length) = c
      generalize Vatsld.timeOf p i way = t
      have em : (if (c : Int) > (t : Int) then (c : Int) else (t : Int)) = ((Nat.max t c : Nat) : Int) := by
        show _ = ((max t c : Nat) : Int)
        split <;> omega
      rw [← em] <;> rfl
  · rintro σ H1 ⟨⟨v, rfl⟩, e1⟩
    walk_at "go"
    exact q H1 e1
/-! ### lists of lists -/
structure AccL (B : Addr → Prop) (H0 : Hp) (D : Addr) (ls : List (List Nat)) (H : Hp) : Prop where
  same : Same H0 H
  new : H0 D = none
  at_ : ∃ xs : List Addr, H D = some (.lst (xs.map V.ref)) ∧ Paired (fun (x : Addr) (l : List Nat) => H x = some (.lst (vN l)) ∧ x ≠ D ∧ B x) xs ls
theorem AccL.nil {B : Addr → Prop} {H0 : Hp} {D : Addr} (hD : H0 D = none) : AccL B H0 D [] (upd H0 D (.lst [])) := ⟨Same.new hD, hD, [], upd_same, .nil⟩
theorem AccL.go {B : Addr → Prop} {H0 H H' : Hp} {D : Addr} {ls : List (List Nat)} (a : AccL B H0 D ls H) (e : Same H H') : AccL B H0 D ls H' := by
  obtain ⟨e0, hD, xs, h1, h2⟩ := a
  exact ⟨Same.trans e0 e, hD, xs, e _ _ h1, Paired.mapP h2 fun _ _ z => ⟨e _ _ z.1, z.2⟩⟩
theorem AccL.add {B : Addr → Prop} {H0 H : Hp} {D : Addr} {ls ms : List (List Nat)} {ys : List Addr} (a : AccL B H0 D ls H) (h : Paired (fun (x : Addr) (l : List Nat) => H x = some (.lst (vN l)) ∧ x ≠ D ∧ B x) ys ms) :
    ∃ acc, H D = some (.lst acc) ∧ acc.length = ls.length ∧ AccL B H0 D (ls ++ ms) (upd H D (.lst (acc ++ ys.map V.ref))) := by
  obtain ⟨e0, hD, xs, h1, h2⟩ := a
  refine ⟨_, h1, by rw [List.length_map, pair_len h2], Same.mut e0 hD, hD, xs ++ ys, by rw [upd_same, List.map_append], ?_⟩
  refine pair_append (Paired.mapP h2 fun x l z => ⟨?_, z.2⟩) (Paired.mapP h fun x l z => ⟨?_, z.2⟩)
  · rw [upd_ne z.2.1]
    exact z.1
  · rw [upd_ne z.2.1]
    exact z.1
theorem AccL.one {B : Addr → Prop} {H0 H : Hp} {D x : Addr} {ls : List (List Nat)} {l : List Nat} (a : AccL B H0 D ls H) (h : H x = some (.lst (vN l))) (hx : x ≠ D) (hB : B x) (hl : ls.length < sizeLine) :
    ∃ acc, H D = some (.lst acc) ∧ acc.length < sizeLine ∧ AccL B H0 D (ls ++ [l]) (upd H D (.lst (acc ++ [.ref x]))) := by
  obtain ⟨acc, h1, h2, h3⟩ := a.add (ms := [l]) (ys := [x]) (.cons ⟨h, hx, hB⟩ .nil)
  exact ⟨acc, h1, by omega, h3⟩
theorem AccL.there {B : Addr → Prop} {H0 H : Hp} {D : Addr} {ls : List (List Nat)} (a : AccL B H0 D ls H) : ∃ o, H D = some o := by
  obtain ⟨_, _, xs, h1, _⟩ := a
  exact ⟨_, h1⟩
theorem ne_new {H : Hp} {x D : Addr} (hx : H x = none) (hD : ∃ o, H D = some o) : x ≠ D := by
  obtain ⟨o, hD⟩ := hD
  exact (ne_of_none hD hx).symm
/-- a list of lists -/
abbrev LstsAt (H : Hp) (xs : List Addr) (ls : List (List Nat)) : Prop := Paired (fun (x : Addr) (l : List Nat) => H x = some (.lst (vN l))) xs ls
theorem lsts_same {H H' : Hp} {xs : List Addr} {ls : List (List Nat)} (e : Same H H') (h : LstsAt H xs ls) : LstsAt H' xs ls := Paired.mapP h fun _ _ z => e _ _ z
def extW (m : Nat) (w : List Nat) : List (List Nat) := (List.range m).map fun k => w ++ [k]
theorem flat_extW (m : Nat) : ∀ l : List (List Nat), (l.flatMap (extW m)).length = l.length * m
  | [] => by simp
  | x :: l => by
    rw [List.flatMap_cons, List.length_append, flat_extW m l]
    unfold extW
    rw [List.length_map, List.length_range, List.length_cons, Nat.succ_mul]
    omega
def sp_all_ways (K : PySem.W.Frag) : Sp := fun vs H Q _ => ∃ (n m : Nat), vs = [.int n, .int m] ∧ n ≤ 7 ∧ m ≤ 3 ∧
  ∀ f xs H', Same H H' → H' f = some (.lst (xs.map V.ref)) → LstsAt H' xs (waysP m n) → Q (.ref f) H'
theorem cal_all_ways (T : Tx K mg) : Cal P w K mg base 1 "all_ways" (sp_all_ways K) := by
  obtain ⟨fd, F⟩ := T.def_ 1 (d := d_all_ways) rfl
  refine cal_of F (g_all_ways T) sc_all_ways (fun _ _ _ _ _ _ us hl => match us, hl with | [_, _], _ => rfl) (fun vs H Q E h => ?_) fun cdv A outer s H vs Q E hr h => ⟨_, (pss_cons (ps_set (i := 2) sc_all_ways.nd rfl (Or.inl rfl) (pe_lst (pa_cons (pe_lst pa_nil) pa_nil)))
    (pss_cons (ps_for (passes_of rfl) rfl (pi_range1 (by rfl) (f_range T) (pa_cons (pv 0) pa_nil)) (pg_name (i := 3) sc_all_ways.nd rfl (Or.inl rfl)) (pss_cons (ps_set (i := 4) sc_all_ways.nd rfl (Or.inl rfl) (pe_lst pa_nil))
    (pss_cons (ps_for (passes_of rfl) rfl (pi_list (pv 2)) (pg_name (i := 5) sc_all_ways.nd rfl (Or.inr rfl)) (pss_one (ps_expr (pe_bm PySem.F.plainAttrs_list PySem.F.slot_list_extend PySem.F.type_list_extend mt_extend (pv 4) (by exact (pa_cons (pe_lc (own := [("machine", 6)]) rfl sc_all_ways.nd (pi_range1 (by rfl) (f_range T) (pa_cons (pv 1) pa_nil)) (blkOk_by (own := [("machine", 6)]) (N := N_all_ways) (sc := defScope s_all_ways) (by decide +kernel)) (fun _ _ _ _ _ => by exact (pg_name (i := 6) sc_all_ways.nd rfl (Or.inl rfl))) (fun _ _ _ _ _ => by exact pts_nil) (fun _ _ _ _ _ => by exact (pe_op op_cat (pv 5) (pe_lst (pa_cons (pv 6) pa_nil))))) pa_nil))))))
    (pss_one (ps_set (i := 2) sc_all_ways.nd rfl (Or.inl rfl) (pv 4))))))
    (pss_one (ps_ret (pv 2))))), ?_⟩
  · obtain ⟨n, m, rfl, _⟩ := h
    rfl
  obtain ⟨n, m, rfl, hn, hm, q⟩ := h
  walk_at "go"
  refine ⟨Nat.zero_le _, fun e0 he0 => ?_⟩
  generalize hH1 : upd H e0 _ = H1
  obtain ⟨e1, h01⟩ := new_at he0 hH1
  walk_at "go"
  refine ⟨of_decide_eq_true rfl, fun f0 hf0 => ?_⟩
  generalize hH2 : upd H1 f0 _ = H2
  obtain ⟨e2, hf2⟩ := new_at hf0 hH2
  dsimp only [gName]
  walk_at "go"
  refine ⟨by omega, by omega, for_range (n := n) (fun i σ H' => (∃ f xs v3 v4 v5 v6, σ = [some (.int n), some (.int m), some (.ref f), v3, v4, v5, v6] ∧ H' f = some (.lst (xs.map V.ref)) ∧ LstsAt H' xs (waysP m i)) ∧ Same H H') ⟨⟨f0, [e0], none, none, none, none, rfl, hf2, .cons (e2 _ _ h01) .nil⟩, Same.trans e1 e2⟩ ?_ ?_⟩
  · rintro i σ H3 hi ⟨⟨f, xs, v3, v4, v5, v6, rfl, hf, hxs⟩, e3⟩
    have hwl := ways_len m i
    have hwb : m ^ i ≤ 3 ^ 7 := Nat.le_trans (Nat.pow_le_pow_left hm i) (Nat.pow_le_pow_right (by decide) (by omega))
    have hwb2 : (3 : Nat) ^ 7 = 2187 := by decide
    walk_at "go"
    refine ⟨Nat.zero_le _, fun D hD => ?_⟩
    have a0 : AccL (fun _ => True) H3 D [] (upd H3 D (.lst [])) := AccL.nil hD
    generalize upd H3 D _ = H4 at a0 ⊢
    dsimp only [gName]
    walk_at "go"
    refine ⟨⟨_, SqL.of (a0.same _ _ hf)⟩, for_list (xs := xs.map V.ref) (fun j σ H' => (∃ v5' v6', σ = [some (.int n), some (.int m), some (.ref f), some (.int (0 + (i : Nat))), some (.ref D), v5', v6']) ∧ AccL (fun _ => True) H3 D (((waysP m i).take j).flatMap (extW m)) H') ⟨⟨_, _, rfl⟩, a0⟩ ?_ ?_ ?_⟩
    · rintro j σ H' hj ⟨_, ac⟩
      exact SqL.of (ac.same _ _ hf)
    · rintro j x σ H5 hx ⟨⟨v5', v6', rfl⟩, ac⟩
      obtain ⟨ad, had, rfl⟩ := of_vR hx
      obtain ⟨wy, hwy, hat⟩ := pair_two hxs had
      have hat5 := ac.same _ _ hat
      obtain ⟨wl, wb⟩ := ways_ok m i wy (List.mem_of_getElem? hwy)
      have hDs := ac.there
      walk_at "go"
      obtain ⟨accD, hDl, _, _⟩ := ac.add (ms := []) (ys := []) .nil
      refine ⟨.inl ⟨rfl, _, SqL.of hDl⟩, ?_⟩
      walk_at "go"
      refine ⟨by omega, by omega, fun C hC => lc_range (n := m) (fun k H' => AccL (fun x => x ≠ D) H5 C ((List.range k).map fun z => wy ++ [z]) H') (AccL.nil hC) ?_ ?_⟩
      · intro k H6 hk ac6
        rw [show (0 : Int) + ((k : Nat) : Int) = (k : Nat) from Int.zero_add _]
        have hat6 := ac6.same _ _ hat5
        refine ⟨rfl, ?_⟩
        dsimp only [tYes]
        rw [if_pos rfl]
        walk_at "go"
        refine ⟨of_decide_eq_true rfl, fun u hu => ?_⟩
        generalize hH7 : upd H6 u _ = H7
        obtain ⟨e7, hu7⟩ := new_at hu hH7
        refine ⟨_, _, _, _, rfl, rfl, e7 _ _ hat6, hu7, ?_, fun y hy => ?_⟩
        · rw [vN_length, wl, sizeLine_eq]
          show i + 1 ≤ _
          omega
        · generalize hH8 : upd H7 y _ = H8
          obtain ⟨e8, hy8⟩ := new_at hy hH8
          have ey : vN wy ++ [V.int (k : Nat)] = vN (wy ++ [k]) := by rw [vN_append] <;> rfl
          rw [ey] at hy8
          have ac7 := ac6.go e7
          have ac8 := ac7.go e8
          obtain ⟨oD, hoD⟩ := hDs
          rw [List.range_succ, List.map_append, List.map_singleton]
          refine ac8.one hy8 (ne_new hy ac7.there) (ne_new hy ⟨_, ac7.same _ _ hoD⟩) ?_
          rw [List.length_map, List.length_range, sizeLine_eq]
          omega
      · intro H6 ac6
        obtain ⟨e6, hC6, ys, h1, h2⟩ := ac6
        obtain ⟨acc, hDD, hl, ac7⟩ := (ac.go e6).add (ms := extW m wy) (ys := ys) (Paired.mapP h2 fun _ _ z => ⟨z.1, z.2.2, trivial⟩)
        refine ⟨D, C, acc, ys.map V.ref, rfl, rfl, hDD, h1, ?_, ⟨_, _, rfl⟩, ?_⟩
        · have hyl := pair_len h2
          rw [List.length_map, List.length_range] at hyl
          have hjl : j ≤ (waysP m i).length := Nat.le_of_lt (List.getElem?_eq_some_iff.mp hwy).1
          have hjm : ((waysP m i).take j).length * m ≤ 2187 * 3 := Nat.mul_le_mul (by rw [List.length_take]; omega) hm
          rw [List.length_map, hyl, hl, flat_extW, sizeLine_eq]
          omega
        · rw [take_more hwy, List.flatMap_append, List.flatMap_singleton]
          exact ac7
    · rintro σ H5 ⟨⟨v5', v6', rfl⟩, ac⟩
      rw [List.length_map, pair_len hxs, List.take_length] at ac
      obtain ⟨e5, _, ys, h1, h2⟩ := ac
      walk_at "go"
      exact ⟨⟨D, ys, _, _, _, _, rfl, h1, Paired.mapP h2 fun _ _ z => z.1⟩, Same.trans e3 e5⟩
  · rintro σ H3 ⟨⟨f, xs, v3, v4, v5, v6, rfl, hf, hxs⟩, e3⟩
    walk_at "go"
    exact q f xs H3 e3 hf hxs
/-- the best so far -/
def BestAt (H : Hp) (bv : V) (lv : Int) : Option Vatsld.Found → Prop
  | none => bv = .non ∧ lv = 0
  | some y => ∃ b, bv = .ref b ∧ lv = (y.cost : Nat) ∧ H b = some (.lst (vN y.order))
theorem BestAt.go {H H' : Hp} {bv : V} {lv : Int} {o : Option Vatsld.Found} (e : Same H H') (h : BestAt H bv lv o) : BestAt H' bv lv o := by
  cases o with
  | none => exact h
  | some y =>
    obtain ⟨b, h1, h2, h3⟩ := h
    exact ⟨b, h1, h2, e _ _ h3⟩
def sp_best_way (K : PySem.W.Frag) : Sp := fun vs H Q _ => ∃ (a : Addr) (p : Vatsld.Plan) (m : Nat), vs = [.ref a, .int m] ∧ PlanAt K H a p ∧ Good p ∧ 1 ≤ m ∧ m ≤ 3 ∧
  ∀ b y H', Same H H' → Vatsld.machinesFor p m = some y → y.cost = Vatsld.timeOf p m y.order → y.order.length = p.jobs.length → H' b = some (.lst (vN y.order)) → Q (.ref b) H'
theorem cal_best_way (T : Tx K mg) : Cal P w K mg base 4 "best_way" (sp_best_way K) := by
  have c_all_ways := cal_all_ways (P := P) (w := w) (base := base) T
  have c_time_of := cal_time_of (P := P) (w := w) (base := base) T
  obtain ⟨fd, F⟩ := T.def_ 2 (d := d_best_way) rfl
  refine cal_of F (g_best_way T) sc_best_way (fun _ _ _ _ _ _ us hl => match us, hl with | [_, _], _ => rfl) (fun vs H Q E h => ?_) fun cdv A outer s H vs Q E hr h => ⟨_, (pss_cons (ps_set (i := 2) sc_best_way.nd rfl (Or.inl rfl) pe_non)
    (pss_cons (ps_set (i := 3) sc_best_way.nd rfl (Or.inl rfl) pe_int)
    (pss_cons (ps_for (passes_of rfl) rfl (pi_list (pe_c c_all_ways hr (by decide) passL (pa_cons (pe_callB call_len_seq (by rfl) (f_len T) (by decide +kernel) (pa_cons (pe_fld (pv 0) rfl) pa_nil)) (pa_cons (pv 1) pa_nil)))) (pg_name (i := 4) sc_best_way.nd rfl (Or.inl rfl)) (pss_cons (ps_set (i := 5) sc_best_way.nd rfl (Or.inl rfl) (pe_c c_time_of hr (by decide) passL (pa_cons (pv 0) (pa_cons (pv 1) (pa_cons (pv 4) pa_nil)))))
    (pss_one (ps_if (PW.pt (pw_or (pt_cmpR op_isN (pv 2) pe_non (nomark _)) (pw_or1 (pt_cmpR op_lt (pv 5) (pv 3) (nomark _))))) (pss_cons (ps_set (i := 2) sc_best_way.nd rfl (Or.inl rfl) (pv 4))
    (pss_one (ps_set (i := 3) sc_best_way.nd rfl (Or.inl rfl) (pv 5)))) pss_nil))))
    (pss_one (ps_ret (pv 2)))))), ?_⟩
  · obtain ⟨a, p, m, rfl, _⟩ := h
    rfl
  obtain ⟨a, p, m, rfl, ⟨g, tl, gs, js, hp⟩, good, hm1, hm, q⟩ := h
  obtain ⟨dp, hpa⟩ := hp.at_
  have hj7 := good.j7
  walk_at "go"
  refine ⟨_, _, rfl, .inl (SqL.of hp.ht), ?_⟩
  rw [List.length_map, hp.lenT]
  walk_at "go"
  refine ⟨p.jobs.length, m, rfl, hj7, hm, fun f xs H1 e1 hf hxs => ?_⟩
  have hp1 := hp.same e1
  have hxl := pair_len hxs
  have hmem := bestW_mem p m (waysP m p.jobs.length)
  refine ⟨f, rfl, ⟨_, SqL.of hf⟩, for_list (xs := xs.map V.ref) (fun i σ H' => Same H1 H' ∧ ∃ bv lv v4 v5, σ = [some (.ref a), some (.int m), some bv, some (.int lv), v4, v5] ∧ BestAt H' bv lv (bestW p m ((waysP m p.jobs.length).take i))) ⟨Same.refl _, .non, 0, none, none, rfl, rfl, rfl⟩ ?_ ?_ ?_⟩
  · rintro i σ H' hi ⟨e2, _⟩
    exact SqL.of (e2 _ _ hf)
  · rintro i x σ H2 hx ⟨e2, bv, lv, v4, v5, rfl, hbest⟩
    obtain ⟨ad, had, rfl⟩ := of_vR hx
    obtain ⟨wy, hwy, hat⟩ := pair_two hxs had
    obtain ⟨wl, wb⟩ := ways_ok m _ wy (List.mem_of_getElem? hwy)
    have hbs := bestW_snoc p m ((waysP m p.jobs.length).take i) wy
    rw [← take_more hwy] at hbs
    have hp2 := hp1.same e2
    walk_at "go"
    refine ⟨a, ad, p, m, wy, rfl, ⟨g, tl, gs, js, hp2⟩, good, SqL.of (e2 _ _ hat), wl, by omega, fun H3 e3 => ?_⟩
    have hat3 := e3 _ _ (e2 _ _ hat)
    have hb3 := hbest.go e3
    dsimp only [gName]
    have put : ∀ σ' : L2.St, σ' = [some (.ref a), some (.int m), some (.ref ad), some (.int (Vatsld.timeOf p m wy : Nat)), some (.ref ad), some (.int (Vatsld.timeOf p m wy : Nat))] →
        bestW p m ((waysP m p.jobs.length).take (i + 1)) = some { cost := Vatsld.timeOf p m wy, order := wy } → Same H1 H3 ∧ ∃ bv lv v4 v5, σ' = [some (.ref a), some (.int m), some bv, some (.int lv), v4, v5] ∧ BestAt H3 bv lv (bestW p m ((waysP m p.jobs.length).take (i + 1))) := by
      rintro σ' rfl eb
      rw [eb]
      exact ⟨Same.trans e2 e3, _, _, _, _, rfl, ad, rfl, rfl, hat3⟩
    cases hbw : bestW p m ((waysP m p.jobs.length).take i) with
    | none =>
      rw [hbw] at hb3 hbs
      obtain ⟨rfl, rfl⟩ := hb3
      walk_at "go"
      refine ⟨rfl, ?_⟩
      walk_at "go"
      exact put _ rfl hbs
    | some y =>
      rw [hbw] at hb3 hbs
      dsimp only at hbs
      obtain ⟨b, rfl, rfl, hby⟩ := hb3
      walk_at "go"
      refine ⟨rfl, ?_⟩
      refine ⟨_, rfl, ?_⟩
      rw [decide_eq_false (fun z => by cases z)]
      walk_at "go"
      rw [show decide (((Vatsld.timeOf p m wy : Nat) : Int) < ((y.cost : Nat) : Int)) = decide (Vatsld.timeOf p m wy < y.cost) from decide_eq_decide.mpr (by omega)]
      by_cases hlt : Vatsld.timeOf p m wy < y.cost
      · rw [decide_eq_true hlt]
        rw [if_pos hlt] at hbs
        walk_at "go"
        exact put _ rfl hbs
      · rw [decide_eq_false hlt]
        rw [if_neg hlt] at hbs
        refine ⟨Same.trans e2 e3, _, _, some (.ref ad), some (.int (Vatsld.timeOf p m wy : Nat)), rfl, ?_⟩
        rw [hbs]
        exact ⟨b, rfl, rfl, hby⟩
  · rintro σ H2 ⟨e2, bv, lv, v4, v5, rfl, hbest⟩
    rw [List.length_map, hxl, List.take_length] at hbest
    have hne : waysP m p.jobs.length ≠ [] := fun z => by
      have z2 := ways_len m p.jobs.length
      rw [z] at z2
      have z3 : 0 < m ^ p.jobs.length := Nat.pow_pos hm1
      rw [← z2] at z3
      exact absurd z3 (by decide)
    obtain ⟨wy, hw1, hw2⟩ := hmem.2 hne
    rw [hw2] at hbest
    obtain ⟨b, rfl, rfl, hb⟩ := hbest
    walk_at "go"
    refine q b _ H2 (Same.trans e1 e2) ?_ rfl (ways_ok m _ wy hw1).1 hb
    rw [← hw2]
    unfold bestW Vatsld.machinesFor
    rw [ways_eq]
def sp_is_way (K : PySem.W.Frag) : Sp := fun vs H Q _ => ∃ (a l : Addr) (p : Vatsld.Plan) (m : Nat) (ns : List Int), vs = [.ref a, .int m, .ref l] ∧ PlanAt K H a p ∧ SqL K H l (ns.map V.int) ∧ ns.length ≤ 100000 ∧
  ∀ H', Same H H' → Q (.bl (ns.length = p.jobs.length && Vatsld.isRow m ns)) H'
theorem cal_is_way (T : Tx K mg) : Cal P w K mg base 1 "is_way" (sp_is_way K) := by
  obtain ⟨fd, F⟩ := T.def_ 3 (d := d_is_way) rfl
  refine cal_of F (g_is_way T) sc_is_way (fun _ _ _ _ _ _ us hl => match us, hl with | [_, _, _], _ => rfl) (fun vs H Q E h => ?_) fun cdv A outer s H vs Q E hr h => ⟨_, (pss_one (ps_ret (pe_and (pe_cmpR op_eq (pe_callB call_len_seq (by rfl) (f_len T) (by decide +kernel) (pa_cons (pv 2) pa_nil)) (pe_callB call_len_seq (by rfl) (f_len T) (by decide +kernel) (pa_cons (pe_fld (pv 0) rfl) pa_nil)) (nomark _)) (pe_one (pe_callB (cr_all rfl) (by rfl) (f_all T) (by decide +kernel) (by exact (pa_cons (pe_lc (own := [("machine", 3)]) rfl sc_is_way.nd (pi_list (pv 2)) (blkOk_by (own := [("machine", 3)]) (N := N_is_way) (sc := defScope s_is_way) (by decide +kernel)) (fun _ _ _ _ _ => by exact (pg_name (i := 3) sc_is_way.nd rfl (Or.inl rfl))) (fun _ _ _ _ _ => by exact pts_nil) (fun _ _ _ _ _ => by exact (pe_chain op_le op_lt pe_int (pv 3) (pv 1)))) pa_nil))))))), ?_⟩
  · obtain ⟨a, l, p, m, ns, rfl, _⟩ := h
    rfl
  obtain ⟨a, l, p, m, ns, rfl, ⟨g, tl, gs, js, hp⟩, hl, hz, q⟩ := h
  obtain ⟨dp, hpa⟩ := hp.at_
  walk_at "go"
  refine ⟨_, _, rfl, .inl hl, ?_⟩
  walk_at "go"
  refine ⟨_, _, rfl, .inl (SqL.of hp.ht), ?_⟩
  walk_at "go"
  refine ⟨rfl, ?_⟩
  rw [List.length_map, List.length_map, hp.lenT, dec_nat]
  refine ⟨_, rfl, ?_⟩
  by_cases hlen : ns.length = p.jobs.length
  · rw [decide_eq_true hlen, if_pos rfl]
    walk_at "go"
    refine ⟨⟨_, hl⟩, fun D hD => lcS_list (xs := ns.map V.int) (fun k => ((ns.take k).map fun i => decide (0 ≤ i) && decide (i < (m : Int))).map V.bl) hD rfl hl ?_ ?_⟩
    · intro k y H1 hy ac
      obtain ⟨i, hi, rfl⟩ := of_vI hy
      refine ⟨rfl, ?_⟩
      dsimp only [tYes]
      rw [if_pos rfl]
      walk_at "go"
      have hkl : k < ns.length := (List.getElem?_eq_some_iff.mp hi).1
      have key : ∀ b, b = (decide (0 ≤ i) && decide (i < (m : Int))) → AddTo H D (((ns.take (k + 1)).map fun i => decide (0 ≤ i) && decide (i < (m : Int))).map V.bl) (.bl b) H1 := by
        rintro b rfl
        refine AddTo.of hD ac (Same.refl _) (by rw [take_more hi, List.map_append, List.map_append] <;> rfl) ?_
        rw [List.length_map, List.length_map, List.length_take, sizeLine_eq]
        omega
      by_cases h0 : 0 ≤ i
      · rw [decide_eq_true h0, if_pos rfl]
        walk_at "go"
        exact key _ (by rw [decide_eq_true h0, Bool.true_and])
      · rw [decide_eq_false h0, if_neg (by decide)]
        exact key _ (by rw [decide_eq_false h0, Bool.false_and])
    · intro H1 ac
      rw [List.length_map, List.take_length] at ac
      refine ⟨D, _, rfl, SqL.of ac.2, ?_⟩
      have z := q H1 ac.1
      rw [decide_eq_true hlen, Bool.true_and] at z
      unfold Vatsld.isRow at z
      rw [List.all_map]
      exact z
  · rw [decide_eq_false hlen, if_neg (by decide)]
    have z := q H (Same.refl _)
    rw [decide_eq_false hlen, Bool.false_and] at z
    exact z
end
end
section
local macro_rules | `(tactic| walk_at "v") => `(tactic| refine ⟨_, rfl, ?_⟩)
local macro_rules | `(tactic| walk_at "ii") => `(tactic| refine ⟨_, _, rfl, rfl, ?_⟩)
local macro_rules | `(tactic| walk_at "no") => `(tactic| first | exact n_Plan_groups ‹_› | exact n_Plan_tests ‹_› | exact n_Group_name ‹_› | exact n_Group_cost ‹_› | exact n_Test_name ‹_› | exact n_Test_cost ‹_› | exact n_Test_chance ‹_› | exact n_Test_group ‹_› | exact n_Test_behind ‹_› | exact n_Token_mark ‹_› | exact n_Token_some ‹_› | exact n_Token_place ‹_› | exact n_Reader_text ‹_› | exact n_Reader_at ‹_› | exact n_Reader_seen ‹_› | exact n_Search_plan ‹_› | exact n_Search_known ‹_› | exact n_Desk_plan ‹_›)
local macro_rules | `(tactic| walk_at "cl") => `(tactic| first | exact c_Plan ‹_› | exact c_Test ‹_› | exact c_Group ‹_› | exact c_Token ‹_› | exact c_Reader ‹_› | exact c_Search ‹_› | exact c_Desk ‹_›)
local macro_rules | `(tactic| walk_at "f") => `(tactic| (refine ⟨_, _, _, _, _, rfl, by first | assumption | exact upd_same, ?cl, ?no, rfl, ?_⟩; (case cl => walk_at "cl"); (case no => walk_at "no")))
local macro_rules | `(tactic| walk_at "m") => `(tactic| refine ⟨_, _, _, rfl, by first | assumption | exact upd_same, rfl, ?_⟩)
local macro_rules | `(tactic| walk_at "go") => `(tactic| repeat (first | walk_at "v" | walk_at "ii" | walk_at "f" | walk_at "m"))
local macro_rules | `(tactic| walk_at "s") => `(tactic| (refine ⟨_, _, _, _, rfl, by first | assumption | exact upd_same, ?cl, ?no, of_decide_eq_true rfl, ?_⟩; (case cl => walk_at "cl"); (case no => walk_at "no")))
abbrev N_all_choices : List Str := ["tests", "found", "number", "longer", "some"]
theorem sc_all_choices : FnScope N_all_choices ["tests"] (defScope s_all_choices) := C8.fnScope_by (by decide +kernel)
abbrev N_best_choice : List Str := ["plan", "most", "best", "told", "some", "own"]
theorem sc_best_choice : FnScope N_best_choice ["plan", "most"] (defScope s_best_choice) := C8.fnScope_by (by decide +kernel)
section
variable {P : Program} {w : World} {K : PySem.W.Frag} {mg : Str → Option Value} {base : Heap}
def extC (n : Nat) (s : List Nat) : List (List Nat) := [s ++ [n], s]
theorem flat_extC (n : Nat) : ∀ l : List (List Nat), (l.flatMap (extC n)).length = l.length * 2
  | [] => by simp
  | x :: l => by
    rw [List.flatMap_cons, List.length_append, flat_extC n l]
    show 2 + l.length * 2 = (l.length + 1) * 2
    omega
def sp_all_choices (K : PySem.W.Frag) : Sp := fun vs H Q _ => ∃ n : Nat, vs = [.int n] ∧ n ≤ 7 ∧
  ∀ f xs H', Same H H' → H' f = some (.lst (xs.map V.ref)) → LstsAt H' xs (choicesP n) → Q (.ref f) H'
theorem cal_all_choices (T : Tx K mg) : Cal P w K mg base 1 "all_choices" (sp_all_choices K) := by
  obtain ⟨fd, F⟩ := T.def_ 5 (d := d_all_choices) rfl
  refine cal_of F (g_all_choices T) sc_all_choices (fun _ _ _ _ _ _ us hl => match us, hl with | [_], _ => rfl) (fun vs H Q E h => ?_) fun cdv A outer s H vs Q E hr h => ⟨_, (pss_cons (ps_set (i := 1) sc_all_choices.nd rfl (Or.inl rfl) (pe_lst (pa_cons (pe_lst pa_nil) pa_nil)))
    (pss_cons (ps_for (passes_of rfl) rfl (pi_range1 (by rfl) (f_range T) (pa_cons (pv 0) pa_nil)) (pg_name (i := 2) sc_all_choices.nd rfl (Or.inl rfl)) (pss_cons (ps_set (i := 3) sc_all_choices.nd rfl (Or.inl rfl) (pe_lst pa_nil))
    (pss_cons (ps_for (passes_of rfl) rfl (pi_list (pv 1)) (pg_name (i := 4) sc_all_choices.nd rfl (Or.inl rfl)) (pss_one (ps_expr (pe_bm PySem.F.plainAttrs_list PySem.F.slot_list_extend PySem.F.type_list_extend mt_extend (pv 3) (pa_cons (pe_lst (pa_cons (pe_op op_cat (pv 4) (pe_lst (pa_cons (pv 2) pa_nil))) (pa_cons (pv 4) pa_nil))) pa_nil)))))
    (pss_one (ps_set (i := 1) sc_all_choices.nd rfl (Or.inl rfl) (pv 3))))))
    (pss_one (ps_ret (pv 1))))), ?_⟩
  · obtain ⟨n, rfl, _⟩ := h
    rfl
  obtain ⟨n, rfl, hn, q⟩ := h
  walk_at "go"
  refine ⟨Nat.zero_le _, fun e0 he0 => ?_⟩
  generalize hH1 : upd H e0 _ = H1
  obtain ⟨e1, h01⟩ := new_at he0 hH1
  walk_at "go"
  refine ⟨of_decide_eq_true rfl, fun f0 hf0 => ?_⟩
  generalize hH2 : upd H1 f0 _ = H2
  obtain ⟨e2, hf2⟩ := new_at hf0 hH2
  dsimp only [gName]
  walk_at "go"
  refine ⟨by omega, by omega, for_range (n := n) (fun i σ H' => (∃ f xs v3 v4 v5, σ = [some (.int n), some (.ref f), v3, v4, v5] ∧ H' f = some (.lst (xs.map V.ref)) ∧ LstsAt H' xs (choicesP i)) ∧ Same H H') ⟨⟨f0, [e0], none, none, none, rfl, hf2, .cons (e2 _ _ h01) .nil⟩, Same.trans e1 e2⟩ ?_ ?_⟩
  · rintro i σ H3 hi ⟨⟨f, xs, v3, v4, v5, rfl, hf, hxs⟩, e3⟩
    rw [show (0 : Int) + ((i : Nat) : Int) = (i : Nat) from Int.zero_add _]
    have hwl := choices_len i
    have hwb : 2 ^ i ≤ 2 ^ 7 := Nat.pow_le_pow_right (by decide) (by omega)
    have hwb2 : (2 : Nat) ^ 7 = 128 := by decide
    walk_at "go"
    refine ⟨Nat.zero_le _, fun D hD => ?_⟩
    have a0 : AccL (fun _ => True) H3 D [] (upd H3 D (.lst [])) := AccL.nil hD
    generalize upd H3 D _ = H4 at a0 ⊢
    dsimp only [gName]
    walk_at "go"
    refine ⟨⟨_, SqL.of (a0.same _ _ hf)⟩, for_list (xs := xs.map V.ref) (fun j σ H' => (∃ v5', σ = [some (.int n), some (.ref f), some (.int (i : Nat)), some (.ref D), v5']) ∧ AccL (fun _ => True) H3 D (((choicesP i).take j).flatMap (extC i)) H') ⟨⟨_, rfl⟩, a0⟩ ?_ ?_ ?_⟩
    · rintro j σ H' hj ⟨_, ac⟩
      exact SqL.of (ac.same _ _ hf)
    · rintro j x σ H5 hx ⟨⟨v5', rfl⟩, ac⟩
      obtain ⟨ad, had, rfl⟩ := of_vR hx
      obtain ⟨sy, hsy, hat⟩ := pair_two hxs had
      have hat5 := ac.same _ _ hat
      have hadD : ad ≠ D := ne_of_none hat ac.new
      obtain ⟨sl, sb⟩ := choices_ok i sy (List.mem_of_getElem? hsy)
      obtain ⟨accD, hDl, _, _⟩ := ac.add (ms := []) (ys := []) .nil
      walk_at "go"
      refine ⟨.inl ⟨rfl, _, SqL.of hDl⟩, ?_⟩
      walk_at "go"
      refine ⟨of_decide_eq_true rfl, fun u hu => ?_⟩
      generalize hH6 : upd H5 u _ = H6
      obtain ⟨e6, hu6⟩ := new_at hu hH6
      refine ⟨_, _, _, _, rfl, rfl, e6 _ _ hat5, hu6, ?_, fun y hy => ?_⟩
      · rw [vN_length, sizeLine_eq]
        show _ + 1 ≤ _
        omega
      · generalize hH7 : upd H6 y _ = H7
        obtain ⟨e7, hy7⟩ := new_at hy hH7
        have ey : vN sy ++ [V.int (i : Nat)] = vN (sy ++ [i]) := by rw [vN_append] <;> rfl
        rw [ey] at hy7
        walk_at "go"
        refine ⟨of_decide_eq_true rfl, fun u2 hu2 => ?_⟩
        generalize hH8 : upd H7 u2 _ = H8
        obtain ⟨e8, hu8⟩ := new_at hu2 hH8
        have e58 : Same H5 H8 := Same.trans e6 (Same.trans e7 e8)
        have hyD : y ≠ D := ne_new hy ⟨_, e6 _ _ hDl⟩
        obtain ⟨acc, hDD, hl, ac9⟩ := (ac.go e58).add (ms := extC i sy) (ys := [y, ad]) (.cons ⟨e8 _ _ hy7, hyD, trivial⟩ (.cons ⟨e58 _ _ hat5, hadD, trivial⟩ .nil))
        refine ⟨D, u2, acc, [.ref y, .ref ad], rfl, rfl, hDD, hu8, ?_, ⟨_, rfl⟩, ?_⟩
        · have hjl : j ≤ (choicesP i).length := Nat.le_of_lt (List.getElem?_eq_some_iff.mp hsy).1
          rw [hl, flat_extC, List.length_take, sizeLine_eq]
          show _ + 2 ≤ _
          omega
        · rw [take_more hsy, List.flatMap_append, List.flatMap_singleton]
          exact ac9
    · rintro σ H5 ⟨⟨v5', rfl⟩, ac⟩
      rw [List.length_map, pair_len hxs, List.take_length] at ac
      obtain ⟨e5, _, ys, h1, h2⟩ := ac
      walk_at "go"
      exact ⟨⟨D, ys, _, _, _, rfl, h1, Paired.mapP h2 fun _ _ z => z.1⟩, Same.trans e3 e5⟩
  · rintro σ H3 ⟨⟨f, xs, v3, v4, v5, rfl, hf, hxs⟩, e3⟩
    walk_at "go"
    exact q f xs H3 e3 hf hxs
/-- the best so far -/
def ChAt (H : Hp) (bv : Addr) (tv : V) : Option Vatsld.Choice → Prop
  | none => tv = .non
  | some y => ∃ t, tv = .ref t ∧ H t = some (.tup [.int (y.miss : Nat), .int (y.cost : Nat)]) ∧ H bv = some (.lst (vN y.jobs))
theorem ChAt.go {H H' : Hp} {bv : Addr} {tv : V} {o : Option Vatsld.Choice} (e : Same H H') (h : ChAt H bv tv o) : ChAt H' bv tv o := by
  cases o with
  | none => exact h
  | some y =>
    obtain ⟨b, h1, h2, h3⟩ := h
    exact ⟨b, h1, e _ _ h2, e _ _ h3⟩
def sp_best_choice (K : PySem.W.Frag) : Sp := fun vs H Q _ => ∃ (a : Addr) (p : Vatsld.Plan) (most : Nat), vs = [.ref a, .int most] ∧ PlanAt K H a p ∧ Good p ∧
  ∀ b y H', Same H H' → Vatsld.budgetFor p most = some y → H' b = some (.lst (vN y.jobs)) → Q (.ref b) H'
theorem better_lex (a b : Vatsld.Choice) : HT.lexLt [(a.miss : Int), (a.cost : Int)] [(b.miss : Int), (b.cost : Int)] = Vatsld.better a b := by
  rw [HT.lexLt_cons, HT.lexLt_cons, HT.lexLt_nil_nil]
  unfold Vatsld.better
  by_cases h : a.miss = b.miss
  · rw [if_pos (by rw [h]), h]
    by_cases h2 : a.cost = b.cost
    · rw [if_pos (by rw [h2]), h2]
      simp
    · rw [if_neg (by omega)]
      simp
  · rw [if_neg (by omega)]
    have e : (a.miss == b.miss) = false := beq_eq_false_iff_ne.mpr h
    rw [e, Bool.false_and, Bool.or_false]
    exact decide_eq_decide.mpr (by omega)
theorem cal_best_choice (T : Tx K mg) : Cal P w K mg base 3 "best_choice" (sp_best_choice K) := by
  have c_all_choices := cal_all_choices (P := P) (w := w) (base := base) T
  have c_Plan_missed := met_missed (P := P) (w := w) (base := base) T
  have c_Plan_cost_of := met_cost_of (P := P) (w := w) (base := base) T
  have c_Plan_is_closed := met_is_closed (P := P) (w := w) (base := base) T
  obtain ⟨fd, F⟩ := T.def_ 6 (d := d_best_choice) rfl
  refine cal_of F (g_best_choice T) sc_best_choice (fun _ _ _ _ _ _ us hl => match us, hl with | [_, _], _ => rfl) (fun vs H Q E h => ?_) fun cdv A outer s H vs Q E hr h => ⟨_, (pss_cons (ps_set (i := 2) sc_best_choice.nd rfl (Or.inl rfl) (pe_lst pa_nil))
    (pss_cons (ps_set (i := 3) sc_best_choice.nd rfl (Or.inl rfl) pe_non)
    (pss_cons (ps_for (passes_of rfl) rfl (pi_list (pe_c c_all_choices hr (by decide) passL (pa_cons (pe_callB call_len_seq (by rfl) (f_len T) (by decide +kernel) (pa_cons (pe_fld (pv 0) rfl) pa_nil)) pa_nil))) (pg_name (i := 4) sc_best_choice.nd rfl (Or.inl rfl)) (pss_cons (ps_set (i := 5) sc_best_choice.nd rfl (Or.inl rfl) (pe_tup (pa_cons (pe_mt c_Plan_missed hr (by decide) passL (pv 0) (pa_cons (pv 4) pa_nil)) (pa_cons (pe_mt c_Plan_cost_of hr (by decide) passL (pv 0) (pa_cons (pv 4) pa_nil)) pa_nil))))
    (pss_one (ps_if (PW.pt (pw_and (pt_cmpR op_le (pe_ix ix_tup (pv 5) pe_int (fun _ _ => rfl)) (pv 1) (nomark _)) (pw_and (pt_val (pe_mt c_Plan_is_closed hr (by decide) passL (pv 0) (pa_cons (pv 4) pa_nil))) (pw_and1 (PW.pt (pw_or (pt_cmpR op_isN (pv 3) pe_non (nomark _)) (pw_or1 (pt_cmpR (op_ltT hr.units0) (pv 5) (pv 3) (nomark _))))))))) (pss_cons (ps_set (i := 2) sc_best_choice.nd rfl (Or.inl rfl) (pv 4))
    (pss_one (ps_set (i := 3) sc_best_choice.nd rfl (Or.inl rfl) (pv 5)))) pss_nil))))
    (pss_one (ps_ret (pv 2)))))), ?_⟩
  · obtain ⟨a, p, most, rfl, _⟩ := h
    rfl
  obtain ⟨a, p, most, rfl, ⟨g, tl, gs, js, hp⟩, good, q⟩ := h
  obtain ⟨c0, hc0, _⟩ := budget_some p most
  have hj7 := good.j7
  walk_at "go"
  refine ⟨Nat.zero_le _, fun b0 hb0 => ?_⟩
  generalize hH1 : upd H b0 _ = H1
  obtain ⟨e1, h01⟩ := new_at hb0 hH1
  have hp1 := hp.same e1
  obtain ⟨dp1, hpa1⟩ := hp1.at_
  dsimp only [gName]
  walk_at "go"
  refine ⟨_, _, rfl, .inl (SqL.of hp1.ht), ?_⟩
  rw [List.length_map, hp.lenT]
  walk_at "go"
  refine ⟨hj7, fun f xs H2 e2 hf hxs => ?_⟩
  have hp2 := hp1.same e2
  have hxl := pair_len hxs
  refine ⟨f, rfl, ⟨_, SqL.of hf⟩, for_list (xs := xs.map V.ref) (fun i σ H' => Same H2 H' ∧ ∃ bv tv v4 v5, σ = [some (.ref a), some (.int most), some (.ref bv), some tv, v4, v5] ∧ ChAt H' bv tv (bestC p most ((choicesP p.jobs.length).take i))) ⟨Same.refl _, b0, .non, none, none, rfl, rfl⟩ ?_ ?_ ?_⟩
  · rintro i σ H' hi ⟨e3, _⟩
    exact SqL.of (e3 _ _ hf)
  · rintro i x σ H3 hx ⟨e3, bv, tv, v4, v5, rfl, hbest⟩
    obtain ⟨ad, had, rfl⟩ := of_vR hx
    obtain ⟨sy, hsy, hat⟩ := pair_two hxs had
    obtain ⟨sl, sb⟩ := choices_ok _ sy (List.mem_of_getElem? hsy)
    have hbs := bestC_snoc p most ((choicesP p.jobs.length).take i) sy
    rw [← take_more hsy] at hbs
    have hp3 := hp2.same e3
    obtain ⟨dp3, hpa3⟩ := hp3.at_
    have hat3 := e3 _ _ hat
    walk_at "go"
    refine ⟨a, ad, p, sy, rfl, ⟨g, tl, gs, js, hp3⟩, good, SqL.of hat3, fun H4 e4 => ?_⟩
    have hp4 := hp3.same e4
    obtain ⟨dp4, hpa4⟩ := hp4.at_
    have hat4 := e4 _ _ hat3
    walk_at "go"
    refine ⟨a, ad, p, sy, rfl, ⟨g, tl, gs, js, hp4⟩, good, SqL.of hat4, sb, by omega, fun H5 e5 => ?_⟩
    walk_at "go"
    refine ⟨of_decide_eq_true rfl, fun t5 ht5 => ?_⟩
    generalize hH6 : upd H5 t5 _ = H6
    obtain ⟨e6, ht6⟩ := new_at ht5 hH6
    have e46 := Same.trans e5 e6
    have hp6 := hp4.same e46
    obtain ⟨dp6, hpa6⟩ := hp6.at_
    have hat6 := e46 _ _ hat4
    have e36 : Same H3 H6 := Same.trans e4 e46
    have hb6 := hbest.go e36
    dsimp only [gName]
    obtain ⟨nw, hnw⟩ : ∃ nw : Bool, nw = (match bestC p most ((choicesP p.jobs.length).take i) with
      | none => true
      | some y => Vatsld.better (chOf p sy) y) := ⟨_, rfl⟩
    refine tifS (decide (Vatsld.costOf p sy ≤ most) && (Vatsld.isClosed p sy && nw)) (fun R q => tandS _ _ (fun R q => ?_) (fun _ H7 e7 R q => tandS _ _ (fun R q => ?_) (fun _ H8 e8 R q => ?_) q) q) (fun H7 e7 hb => ?_) (fun H7 e7 hb => ?_)
    · walk_at "go"
      refine ⟨_, _, _, _, rfl, rfl, .inl (.inl ht6), atI_nat (j := 1) rfl, ?_⟩
      walk_at "go"
      rw [show decide (((Vatsld.costOf p sy : Nat) : Int) ≤ ((most : Nat) : Int)) = decide (Vatsld.costOf p sy ≤ most) from decide_eq_decide.mpr (by omega)]
      exact q H6 (Same.refl _)
    · have hp7 := hp6.same e7
      obtain ⟨dp7, hpa7⟩ := hp7.at_
      walk_at "go"
      refine ⟨a, ad, p, sy, rfl, ⟨g, tl, gs, js, hp7⟩, good, SqL.of (e7 _ _ hat6), sb, fun H8 e8 => ?_⟩
      walk_at "go"
      exact q H8 e8
    · have hb8 := hb6.go (Same.trans e7 e8)
      have ht8 := e8 _ _ (e7 _ _ ht6)
      cases hbw : bestC p most ((choicesP p.jobs.length).take i) with
      | none =>
        rw [hbw] at hb8 hnw
        subst hnw
        have hb8 : tv = .non := hb8
        subst hb8
        walk_at "go"
        refine ⟨rfl, ?_⟩
        walk_at "go"
        exact q H8 (Same.refl _)
      | some y =>
        rw [hbw] at hb8 hnw
        obtain ⟨t, rfl, h1, h2⟩ := hb8
        walk_at "go"
        refine ⟨rfl, ?_⟩
        refine ⟨_, rfl, ?_⟩
        rw [decide_eq_false (fun z => by cases z)]
        walk_at "go"
        refine ⟨t5, t, [((chOf p sy).miss : Nat), ((chOf p sy).cost : Nat)], [(y.miss : Nat), (y.cost : Nat)], rfl, rfl, .inl (.inl ht8), .inl (.inl h1), ?_⟩
        rw [better_lex]
        dsimp only at hnw
        rw [← hnw]
        exact ⟨_, rfl, q H8 (Same.refl _)⟩
    · rw [Bool.and_eq_true, Bool.and_eq_true] at hb
      obtain ⟨hb1, hb2, hb3⟩ := hb
      have hok : okC p most sy = true := by
        unfold okC
        rw [hb2, hb1] <;> rfl
      rw [hok, if_pos rfl] at hbs
      have hbs2 : bestC p most ((choicesP p.jobs.length).take (i + 1)) = some (chOf p sy) := by
        rw [hbs]
        cases hbw : bestC p most ((choicesP p.jobs.length).take i) with
        | none => rfl
        | some y =>
          rw [hbw] at hnw
          dsimp only at hnw ⊢
          rw [← hnw, hb3, if_pos rfl]
      walk_at "go"
      refine ⟨Same.trans e3 (Same.trans e36 e7), ad, .ref t5, _, _, rfl, ?_⟩
      rw [hbs2]
      exact ⟨t5, rfl, e7 _ _ ht6, e7 _ _ hat6⟩
    · refine ⟨Same.trans e3 (Same.trans e36 e7), bv, tv, some (.ref ad), some (.ref t5), rfl, ?_⟩
      have hbs2 : bestC p most ((choicesP p.jobs.length).take (i + 1)) = bestC p most ((choicesP p.jobs.length).take i) := by
        rw [hbs]
        cases hok : okC p most sy with
        | false => rfl
        | true =>
          unfold okC at hok
          rw [Bool.and_eq_true] at hok
          rw [hok.1, hok.2, Bool.true_and, Bool.true_and] at hb
          rw [if_pos rfl]
          cases hbw : bestC p most ((choicesP p.jobs.length).take i) with
          | none =>
            rw [hbw] at hnw
            rw [hnw] at hb
            cases hb
          | some y =>
            rw [hbw] at hnw
            dsimp only at hnw ⊢
            rw [← hnw, hb, if_neg (by decide)]
      rw [hbs2]
      exact hb6.go e7
  · rintro σ H3 ⟨e3, bv, tv, v4, v5, rfl, hbest⟩
    rw [List.length_map, hxl, List.take_length, bestC_all, hc0] at hbest
    obtain ⟨t, rfl, h1, h2⟩ := hbest
    walk_at "go"
    exact q bv c0 H3 (Same.trans e1 (Same.trans e2 e3)) hc0 h2
end
end
section
local macro_rules | `(tactic| walk_at "v") => `(tactic| refine ⟨_, rfl, ?_⟩)
local macro_rules | `(tactic| walk_at "ii") => `(tactic| refine ⟨_, _, rfl, rfl, ?_⟩)
local macro_rules | `(tactic| walk_at "no") => `(tactic| first | exact n_Plan_groups ‹_› | exact n_Plan_tests ‹_› | exact n_Group_name ‹_› | exact n_Group_cost ‹_› | exact n_Test_name ‹_› | exact n_Test_cost ‹_› | exact n_Test_chance ‹_› | exact n_Test_group ‹_› | exact n_Test_behind ‹_› | exact n_Token_mark ‹_› | exact n_Token_some ‹_› | exact n_Token_place ‹_› | exact n_Reader_text ‹_› | exact n_Reader_at ‹_› | exact n_Reader_seen ‹_› | exact n_Search_plan ‹_› | exact n_Search_known ‹_› | exact n_Desk_plan ‹_›)
local macro_rules | `(tactic| walk_at "cl") => `(tactic| first | exact c_Plan ‹_› | exact c_Test ‹_› | exact c_Group ‹_› | exact c_Token ‹_› | exact c_Reader ‹_› | exact c_Search ‹_› | exact c_Desk ‹_›)
local macro_rules | `(tactic| walk_at "f") => `(tactic| (refine ⟨_, _, _, _, _, rfl, by first | assumption | exact upd_same, ?cl, ?no, rfl, ?_⟩; (case cl => walk_at "cl"); (case no => walk_at "no")))
local macro_rules | `(tactic| walk_at "m") => `(tactic| refine ⟨_, _, _, rfl, by first | assumption | exact upd_same, rfl, ?_⟩)
local macro_rules | `(tactic| walk_at "go") => `(tactic| repeat (first | walk_at "v" | walk_at "ii" | walk_at "f" | walk_at "m"))
local macro_rules | `(tactic| walk_at "s") => `(tactic| (refine ⟨_, _, _, _, rfl, by first | assumption | exact upd_same, ?cl, ?no, of_decide_eq_true rfl, ?_⟩; (case cl => walk_at "cl"); (case no => walk_at "no")))
abbrev N_Search_from_on : List Str := ["self", "done", "group", "number", "left", "later"]
theorem sc_Search_from_on : FnScope N_Search_from_on ["self", "done", "group", "number"] (defScope s_Search_from_on) := C8.fnScope_by (by decide +kernel)
abbrev N_Search_least : List Str := ["self", "done", "group", "some", "number"]
theorem sc_Search_least : FnScope N_Search_least ["self", "done", "group"] (defScope s_Search_least) := C8.fnScope_by (by decide +kernel)
section
variable {P : Program} {w : World} {K : PySem.W.Frag} {mg : Str → Option Value} {base : Heap}
theorem keep1 {H H' : Hp} {kd b : Addr} {φ : Heap → Prop} {o : HO} (k : Keep [kd] H H') (hd : H kd = some (.ext φ)) (hb : H b = some o) (ne : o ≠ .ext φ) : H' b = some o := k b o hb fun z => by
  rw [List.mem_singleton] at z
  subst z
  rw [hd] at hb
  exact ne (Option.some.inj hb).symm
theorem GroupAt.keep1 {H H' : Hp} {kd x : Addr} {φ : Heap → Prop} {g : Vatsld.Group} (k : Keep [kd] H H') (hd : H kd = some (.ext φ)) (h : GroupAt K H x g) : GroupAt K H' x g := by
  obtain ⟨dx, nm, h1, h2⟩ := h
  exact ⟨dx, nm, Tp.keep1 k hd h1 (fun z => by cases z), Tp.keep1 k hd h2 (fun z => by cases z)⟩
theorem TestOff.keep1 {H H' : Hp} {kd g t x : Addr} {φ : Heap → Prop} {j : Vatsld.Job} (k : Keep [kd] H H') (hd : H kd = some (.ext φ)) (h : TestOff K H g t x j) : TestOff K H' g t x j := by
  obtain ⟨dx, nm, b, h1, h2, h3, h4⟩ := h
  exact ⟨dx, nm, b, Tp.keep1 k hd h1 (fun z => by cases z), Tp.keep1 k hd h2 (fun z => by cases z), Tp.keep1 k hd h3 (fun z => by cases z), h4⟩
theorem PlanL.keep1 {H H' : Hp} {kd a g t : Addr} {gs ts : List Addr} {φ : Heap → Prop} {p : Vatsld.Plan} (k : Keep [kd] H H') (hd : H kd = some (.ext φ)) (h : PlanL K H a g t gs ts p) : PlanL K H' a g t gs ts p := by
  obtain ⟨⟨dx, h1⟩, h2, h3, h4, h5, h6⟩ := h
  exact ⟨⟨dx, Tp.keep1 k hd h1 (fun z => by cases z)⟩, Tp.keep1 k hd h2 (fun z => by cases z), Tp.keep1 k hd h3 (fun z => by cases z), Paired.mapP h4 fun _ _ q => q.keep1 k hd, Paired.mapP h5 fun _ _ q => q.keep1 k hd, h6⟩
theorem PlanAt.keep1 {H H' : Hp} {kd a : Addr} {φ : Heap → Prop} {p : Vatsld.Plan} (k : Keep [kd] H H') (hd : H kd = some (.ext φ)) (h : PlanAt K H a p) : PlanAt K H' a p := by
  obtain ⟨g, t, gs, ts, h⟩ := h
  exact ⟨g, t, gs, ts, h.keep1 k hd⟩
theorem KDict.go {H H' : Hp} {d : Addr} {es : List Ent} (e : Same H H') (h : KDict P w H d es) : KDict P w H' d es := ⟨e _ _ h.at_, h.sm, fun x hx => ⟨e _ _ (h.tups x hx).1, e _ _ (h.tups x hx).2⟩⟩
/-- what a search holds -/
def SearchAt (P : Program) (w : World) (K : PySem.W.Frag) (H : Hp) (s a kd : Addr) (es : List Ent) : Prop := (∃ dx, H s = some (.ins (He.ga K "Search") dx [("plan", .ref a), ("known", .ref kd)])) ∧ KDict P w H kd es
theorem SearchAt.go {H H' : Hp} {s a kd : Addr} {es : List Ent} (e : Same H H') (h : SearchAt P w K H s a kd es) : SearchAt P w K H' s a kd es := by
  obtain ⟨⟨dx, h1⟩, h2⟩ := h
  exact ⟨⟨dx, e _ _ h1⟩, h2.go e⟩
theorem SearchAt.keep1 {H H' : Hp} {s a kd : Addr} {es es' : List Ent} (k : Keep [kd] H H') (h : SearchAt P w K H s a kd es) (h' : KDict P w H' kd es') : SearchAt P w K H' s a kd es' := by
  obtain ⟨⟨dx, h1⟩, h2⟩ := h
  exact ⟨⟨dx, Tp.keep1 k h2.at_ h1 (fun z => by cases z)⟩, h'⟩
def DictOk (p : Vatsld.Plan) (es : List Ent) : Prop := ∀ e ∈ es, ∃ last, e.g = gI last ∧ e.v = ((bst p e.done last).cost : Nat)
def cnt : Nat → Nat
  | 0 => 0
  | n + 1 => 1 + (n + 1) * cnt n
def sp_least (P : Program) (w : World) (K : PySem.W.Frag) (n : Nat) : Sp := fun vs H Q _ => ∃ (s a kd d : Addr) (es : List Ent) (p : Vatsld.Plan) (done : List Nat) (last : Option Nat), vs = [.ref s, .ref d, .int (gI last)] ∧ SearchAt P w K H s a kd es ∧ PlanAt K H a p ∧ Good p ∧
  H d = some (.tup (vN done)) ∧ Valid p done ∧ done.length + n = p.jobs.length ∧ DictOk p es ∧ es.length + cnt n ≤ 100000 ∧
  ∀ es' H', Keep [kd] H H' → KDict P w H' kd es' → DictOk p es' → es'.length ≤ es.length + cnt n → (∀ dn k, dn.length < done.length → look es' dn k = look es dn k) → Q (.int ((bst p done last).cost : Nat)) H'
def sp_from_on (P : Program) (w : World) (K : PySem.W.Frag) (n : Nat) : Sp := fun vs H Q _ => ∃ (s a kd d : Addr) (es : List Ent) (p : Vatsld.Plan) (done : List Nat) (last : Option Nat) (i : Nat), vs = [.ref s, .ref d, .int (gI last), .int i] ∧ SearchAt P w K H s a kd es ∧ PlanAt K H a p ∧ Good p ∧
  H d = some (.tup (vN done)) ∧ Valid p done ∧ i ∈ mayRun p done p.jobs.length ∧ done.length + (n + 1) = p.jobs.length ∧ DictOk p es ∧ es.length + cnt n ≤ 100000 ∧
  ∀ es' H', Keep [kd] H H' → KDict P w H' kd es' → DictOk p es' → es'.length ≤ es.length + cnt n → (∀ dn k, dn.length ≤ done.length → look es' dn k = look es dn k) → Q (.int (fromOn p done last i : Nat)) H'
def sp_leastL (P : Program) (w : World) (K : PySem.W.Frag) (N : Nat) : Sp := fun vs H Q E => ∃ n, n ≤ N ∧ sp_least P w K n vs H Q E
def sp_fromL (P : Program) (w : World) (K : PySem.W.Frag) (N : Nat) : Sp := fun vs H Q E => ∃ n, n ≤ N ∧ sp_from_on P w K n vs H Q E
theorem nats_of_perm {ns : List Int} {l : List Nat} (h : ns.Perm (l.map fun n : Nat => (n : Int))) : ∃ m : List Nat, ns = (m.map fun n : Nat => (n : Int)) ∧ m.Perm l := by
  refine ⟨ns.map Int.toNat, ?_, ?_⟩
  · rw [List.map_map]
    have e : ∀ x ∈ ns, ((fun n : Nat => (n : Int)) ∘ Int.toNat) x = x := fun x hx => by
      obtain ⟨n, _, rfl⟩ := List.mem_map.mp (h.mem_iff.mp hx)
      rfl
    rw [List.map_congr_left e, List.map_id']
  · have h2 := h.map Int.toNat
    rw [List.map_map] at h2
    have e : (Int.toNat ∘ fun n : Nat => (n : Int)) = id := by
      funext x
      exact Int.toNat_natCast x
    rw [e, List.map_id] at h2
    exact h2
theorem met_from_on (T : Tx K mg) {N k : Nat} (hk : 2 ≤ k) (c_Search_least : Met P w K mg base k "Search" "least" (sp_leastL P w K N)) : Met P w K mg base (k + 1) "Search" "from_on" (sp_fromL P w K N) := by
  have c_step_cost := cal_step_cost (P := P) (w := w) (base := base) T
  have c_group_behind := cal_group_behind (P := P) (w := w) (base := base) T
  have c_scaled := cal_scaled (P := P) (w := w) (base := base) T
  obtain ⟨fd, F⟩ := T.def_ 48 (d := d_Search_from_on) rfl
  refine met_of F (c_Search T) (m_Search_from_on T) sc_Search_from_on (fun _ _ _ _ _ _ us hl => match us, hl with | [_, _, _, _], _ => rfl) (fun vs H Q E h => ?_) fun cdv A outer s H vs Q E hr h => ⟨_, (pss_cons (ps_set (i := 4) sc_Search_from_on.nd rfl (Or.inl rfl) (pe_op op_sub (pe_callB call_len_seq (by rfl) (f_len T) (by decide +kernel) (pa_cons (pe_fld (pe_fld (pv 0) rfl) rfl) pa_nil)) (pe_callB call_len_seq (by rfl) (f_len T) (by decide +kernel) (pa_cons (pv 1) pa_nil))))
    (pss_cons (ps_set (i := 5) sc_Search_from_on.nd rfl (Or.inl rfl) (pe_mt c_Search_least hr (by omega) passL (pv 0) (pa_cons (pe_callTy call_tuple_of (by rfl) (f_tuple T) (by decide +kernel) (pa_cons (pe_callB cr_sortedTI (by rfl) (f_sorted T) (by decide +kernel) (pa_cons (pe_op op_catA (pv 1) (pe_tup (pa_cons (pv 3) pa_nil))) pa_nil)) pa_nil)) (pa_cons (pe_c c_group_behind hr (by omega) passL (pa_cons (pe_fld (pv 0) rfl) (pa_cons (pv 3) (pa_cons (pv 2) pa_nil)))) pa_nil))))
    (pss_one (ps_ret (pe_op op_add (pe_c c_scaled hr (by omega) passL (pa_cons (pe_c c_step_cost hr (by omega) passL (pa_cons (pe_fld (pv 0) rfl) (pa_cons (pv 3) (pa_cons (pv 2) pa_nil)))) (pa_cons (pv 4) pa_nil))) (pe_op op_mul (pe_op op_sub (pe_gi (i_HUNDRED T)) (pe_fld (pe_ix ix_list (pe_fld (pe_fld (pv 0) rfl) rfl) (pv 3) (fun _ _ => rfl)) rfl)) (pv 5))))))), ?_⟩
  · obtain ⟨n, _, s, a, kd, d, es, p, done, last, i, rfl, _⟩ := h
    rfl
  obtain ⟨n, hnN, s, a, kd, d, es, p, done, last, i, rfl, hs, ⟨g, tl, gs, js, hp⟩, good, hd, v, hi, hn, hok, hz, q⟩ := h
  obtain ⟨⟨dx, hsa⟩, hkd⟩ := hs
  obtain ⟨dp, hpa⟩ := hp.at_
  walk_at "go"
  refine ⟨_, _, rfl, .inl (SqL.of hp.ht), ?_⟩
  walk_at "go"
  refine ⟨_, _, rfl, .inr (.inl (.inl hd)), ?_⟩
  walk_at "go"
  rw [List.length_map, hp.lenT, vN_length]
  refine ⟨of_decide_eq_true rfl, fun t1 ht1 => ?_⟩
  generalize hH1 : upd H t1 _ = H1
  obtain ⟨e1, h11⟩ := new_at ht1 hH1
  have hvl := v.len
  have hj7 := good.j7
  refine cat_any (.inl (.inl (e1 _ _ hd))) (.inl (.inl h11)) (by rw [vN_length, sizeLine_eq]; show _ + 1 ≤ _; omega) fun p2 H2 e2 hp2 => ?_
  have ey : vN done ++ [V.int (i : Nat)] = ((done ++ [i]).map fun n : Nat => (n : Int)).map V.int := by
    rw [← vN_eq, vN_append] <;> rfl
  rw [ey] at hp2
  refine ⟨p2, _, rfl, hp2, fun ns' p3 hpm hso hp3 => ?_⟩
  obtain ⟨ms, rfl, hms⟩ := nats_of_perm hpm
  rw [← vN_eq]
  generalize hH3 : upd H2 p3 _ = H3
  obtain ⟨e3, hp33⟩ := new_at hp3 hH3
  refine ⟨_, _, rfl, .inl ⟨SqL.of hp33, fun p4 hp4 => ?_⟩⟩
  generalize hH4 : upd H3 p4 _ = H4
  obtain ⟨e4, hp44⟩ := new_at hp4 hH4
  have e04 : Same H H4 := Same.trans e1 (Same.trans e2 (Same.trans e3 e4))
  have hsa4 := e04 _ _ hsa
  have hp4 := hp.same e04
  have hil := mayRun_lt hi
  walk_at "go"
  refine ⟨a, p, i, last, rfl, ⟨g, tl, gs, js, hp4⟩, hil, ?_⟩
  have hvm := (v.snoc hi).perm hms.symm
  have hml := hms.length_eq
  rw [List.length_append, List.length_singleton] at hml
  refine ⟨n, hnN, s, a, kd, p4, es, p, ms, Vatsld.groupAfter p last i, rfl, ⟨⟨dx, hsa4⟩, hkd.go e04⟩, ⟨g, tl, gs, js, hp4⟩, good, hp44, hvm, by omega, hok, hz, fun es' H5 k5 hkd5 hok5 hz5 hlk5 => ?_⟩
  have hkd4 := (hkd.go e04).at_
  have hsa5 := keep1 k5 hkd4 hsa4 (fun z => by cases z)
  have hp5 := hp4.keep1 k5 hkd4
  have k05 : Keep [kd] H H5 := Keep.trans (Keep.of e04) k5
  dsimp only [gName]
  walk_at "go"
  refine ⟨a, p, i, last, rfl, ⟨g, tl, gs, js, hp5⟩, good, hil, fun H6 e6 => ?_⟩
  have hsa6 := e6 _ _ hsa5
  have hp6 := hp5.same e6
  obtain ⟨dp6, hpa6⟩ := hp6.at_
  obtain ⟨xt, hxt, dt, nm, bh, h2, h3, h4⟩ := hp6.test (job_get hil)
  have jo := good.job i _ (job_get hil)
  walk_at "go"
  have en : ((p.jobs.length : Nat) : Int) - ((done.length : Nat) : Int) = ((p.jobs.length - done.length : Nat) : Int) := by omega
  refine ⟨_, p.jobs.length - done.length, (show [V.int _, V.int (((p.jobs.length : Nat) : Int) - ((done.length : Nat) : Int))] = _ by rw [en] <;> rfl), by omega, ?_⟩
  walk_at "go"
  refine ⟨_, _, _, _, rfl, rfl, SqL.of hp6.ht, atI_nat hxt, ?_⟩
  walk_at "go"
  have ch := jo.ch
  refine ⟨.inl ⟨by omega, by omega⟩, ?_⟩
  walk_at "go"
  have ef : ((fromOn p done last i : Nat) : Int) = ((Vatsld.costFrom p last i : Nat) : Int) * 100 ^ (p.jobs.length - done.length) + (100 - ((Vatsld.jobAt p i).chance : Int)) * ((bst p ms (Vatsld.groupAfter p last i)).cost : Nat) := by
    unfold fromOn
    rw [bst_sim p (Vatsld.groupAfter p last i) hms, Int.natCast_add, Int.natCast_mul, Int.natCast_mul, Int.natCast_pow, show ((100 - (Vatsld.jobAt p i).chance : Nat) : Int) = 100 - ((Vatsld.jobAt p i).chance : Int) by omega] <;> rfl
  have z := q es' H6 (Keep.trans k05 (Keep.of e6)) (hkd5.go e6) hok5 hz5 fun dn k hdn => hlk5 dn k (by omega)
  rw [ef] at z
  exact z
theorem gI_inj {a b : Option Nat} (h : gI a = gI b) : a = b := gInt_inj (by rw [← gI_eq, ← gI_eq]; exact h)
theorem look_ok {p : Vatsld.Plan} {es : List Ent} (h : DictOk p es) {done : List Nat} {last : Option Nat} {v : Int} (hl : look es done (gI last) = some v) : v = ((bst p done last).cost : Nat) := by
  unfold look at hl
  rw [Option.map_eq_some_iff] at hl
  obtain ⟨e, he, rfl⟩ := hl
  obtain ⟨last', h1, h2⟩ := h e (List.mem_of_find?_eq_some he)
  have h3 := List.find?_some he
  have h3 := of_decide_eq_true h3
  rw [h2, h3.1, gI_inj (h1.symm.trans h3.2)]
theorem look_snoc {es : List Ent} {e : Ent} (h : look es e.done e.g = none) : look (es ++ [e]) e.done e.g = some e.v := by
  unfold look at *
  rw [Option.map_eq_none_iff] at h
  rw [List.find?_append, h]
  simp
theorem look_more {es : List Ent} {e : Ent} {dn : List Nat} {k : Int} (h : e.done ≠ dn) : look (es ++ [e]) dn k = look es dn k := by
  unfold look
  rw [List.find?_append]
  have e1 : [e].find? (fun e => decide (e.done = dn ∧ e.g = k)) = none := by
    rw [List.find?_cons, decide_eq_false (fun z => h z.1)] <;> rfl
  rw [e1, Option.or_none]
theorem may_few {p : Vatsld.Plan} {done : List Nat} (v : Valid p done) : (mayRun p done p.jobs.length).length + done.length ≤ p.jobs.length := by
  have h : ((mayRun p done p.jobs.length) ++ done).Nodup := List.nodup_append.mpr ⟨(may_sorted p done _).imp (fun h => Nat.ne_of_lt h), v.nd, fun a ha b hb z => (mem_may ha).1 (z ▸ hb)⟩
  have z := nodup_le p.jobs.length _ h fun x hx => by
    rcases List.mem_append.mp hx with hx | hx
    · exact mayRun_lt hx
    · exact v.lt x hx
  rw [List.length_append] at z
  exact z
theorem Keep.put {S : List Addr} {H H' : Hp} {p : Addr} {o : HO} (e : Keep S H H') (h : H p = none) : Keep S H (L2.upd H' p o) := Keep.upd e (.inr h)
theorem met_from_none (T : Tx K mg) : Met P w K mg base 1 "Search" "from_on" (fun _ _ _ _ => False) := by
  obtain ⟨fd, F⟩ := T.def_ 48 (d := d_Search_from_on) rfl
  exact met_of F (c_Search T) (m_Search_from_on T) sc_Search_from_on (fun _ _ _ _ _ _ us hl => match us, hl with | [_, _, _, _], _ => rfl) (fun _ _ _ _ h => h.elim) (fun _ _ _ _ _ _ _ _ _ h => h.elim)
theorem met_least0 (T : Tx K mg) : Met P w K mg base 2 "Search" "least" (sp_leastL P w K 0) := by
  have c_may_run := cal_may_run (P := P) (w := w) (base := base) T
  have c_Search_from_on := met_from_none (P := P) (w := w) (base := base) T
  obtain ⟨fd, F⟩ := T.def_ 49 (d := d_Search_least) rfl
  refine met_of F (c_Search T) (m_Search_least T) sc_Search_least (fun _ _ _ _ _ _ us hl => match us, hl with | [_, _, _], _ => rfl) (fun vs H Q E h => ?_) fun cdv A outer s H vs Q E hr h => ⟨_, (pss_cons (ps_if (pt_cmpR op_eq (pe_callB call_len_seq (by rfl) (f_len T) (by decide +kernel) (pa_cons (pv 1) pa_nil)) (pe_callB call_len_seq (by rfl) (f_len T) (by decide +kernel) (pa_cons (pe_fld (pe_fld (pv 0) rfl) rfl) pa_nil)) (nomark _)) (pss_one (ps_ret pe_int)) pss_nil)
    (pss_cons (ps_if (pt_cmpR (op_kNotIn hr) (pe_tup (pa_cons (pv 1) (pa_cons (pv 2) pa_nil))) (pe_fld (pv 0) rfl) rfl) (pss_cons (ps_setLc (i := 3) (own := [("number", 4)]) rfl sc_Search_least.nd rfl rfl (sw_true rfl rfl rfl (by decide +kernel)) (pi_list (pe_c c_may_run hr (by omega) passL (pa_cons (pe_fld (pv 0) rfl) (pa_cons (pv 1) pa_nil)))) (blkOk_by (own := [("number", 4)]) (N := N_Search_least) (sc := defScope s_Search_least) (by decide +kernel)) (fun _ _ _ _ _ => by exact (pg_name (i := 4) sc_Search_least.nd rfl (Or.inl rfl))) (fun _ _ _ _ _ => by exact pts_nil) (fun _ _ _ _ _ => by exact (pe_mtK (K := K) rfl c_Search_from_on hr (by omega) passL (pv 0) (pa_cons (pv 1) (pa_cons (pv 2) (pa_cons (pv 4) pa_nil))))))
    (pss_one (ps_kput hr (pe_fld (pv 0) rfl) (pe_tup (pa_cons (pv 1) (pa_cons (pv 2) pa_nil))) (pe_callB (cr_min rfl) (by rfl) (f_min T) (by decide +kernel) (pa_cons (pv 3) pa_nil)) rfl))) pss_nil)
    (pss_one (ps_ret (pe_kget hr (pe_fld (pv 0) rfl) (pe_tup (pa_cons (pv 1) (pa_cons (pv 2) pa_nil)))))))), ?_⟩
  · obtain ⟨n, _, s, a, kd, d, es, p, done, last, rfl, _⟩ := h
    rfl
  obtain ⟨n, hn0, s, a, kd, d, es, p, done, last, rfl, hs, ⟨g, tl, gs, js, hp⟩, good, hd, v, hn, hok, hz, q⟩ := h
  obtain ⟨⟨dx, hsa⟩, hkd⟩ := hs
  obtain ⟨dp, hpa⟩ := hp.at_
  walk_at "go"
  refine ⟨_, _, rfl, .inr (.inl (.inl hd)), ?_⟩
  walk_at "go"
  refine ⟨_, _, rfl, .inl (SqL.of hp.ht), ?_⟩
  walk_at "go"
  refine ⟨rfl, ?_⟩
  rw [List.length_map, hp.lenT, vN_length, dec_nat, decide_eq_true (by omega)]
  walk_at "go"
  have z := q es H (Keep.refl) hkd hok (by omega) fun _ _ _ => rfl
  rw [bst_done p last (by omega)] at z
  exact z
theorem met_least (T : Tx K mg) {N k : Nat} (hk : 2 ≤ k) (c_Search_from_on : Met P w K mg base k "Search" "from_on" (sp_fromL P w K N)) : Met P w K mg base (k + 1) "Search" "least" (sp_leastL P w K (N + 1)) := by
  have c_may_run := cal_may_run (P := P) (w := w) (base := base) T
  obtain ⟨fd, F⟩ := T.def_ 49 (d := d_Search_least) rfl
  refine met_of F (c_Search T) (m_Search_least T) sc_Search_least (fun _ _ _ _ _ _ us hl => match us, hl with | [_, _, _], _ => rfl) (fun vs H Q E h => ?_) fun cdv A outer s H vs Q E hr h => ⟨_, (pss_cons (ps_if (pt_cmpR op_eq (pe_callB call_len_seq (by rfl) (f_len T) (by decide +kernel) (pa_cons (pv 1) pa_nil)) (pe_callB call_len_seq (by rfl) (f_len T) (by decide +kernel) (pa_cons (pe_fld (pe_fld (pv 0) rfl) rfl) pa_nil)) (nomark _)) (pss_one (ps_ret pe_int)) pss_nil)
    (pss_cons (ps_if (pt_cmpR (op_kNotIn hr) (pe_tup (pa_cons (pv 1) (pa_cons (pv 2) pa_nil))) (pe_fld (pv 0) rfl) rfl) (pss_cons (ps_setLc (i := 3) (own := [("number", 4)]) rfl sc_Search_least.nd rfl rfl (sw_true rfl rfl rfl (by decide +kernel)) (pi_list (pe_c c_may_run hr (by omega) passL (pa_cons (pe_fld (pv 0) rfl) (pa_cons (pv 1) pa_nil)))) (blkOk_by (own := [("number", 4)]) (N := N_Search_least) (sc := defScope s_Search_least) (by decide +kernel)) (fun _ _ _ _ _ => by exact (pg_name (i := 4) sc_Search_least.nd rfl (Or.inl rfl))) (fun _ _ _ _ _ => by exact pts_nil) (fun _ _ _ _ _ => by exact (pe_mtK (K := K) rfl c_Search_from_on hr (by omega) passL (pv 0) (pa_cons (pv 1) (pa_cons (pv 2) (pa_cons (pv 4) pa_nil))))))
    (pss_one (ps_kput hr (pe_fld (pv 0) rfl) (pe_tup (pa_cons (pv 1) (pa_cons (pv 2) pa_nil))) (pe_callB (cr_min rfl) (by rfl) (f_min T) (by decide +kernel) (pa_cons (pv 3) pa_nil)) rfl))) pss_nil)
    (pss_one (ps_ret (pe_kget hr (pe_fld (pv 0) rfl) (pe_tup (pa_cons (pv 1) (pa_cons (pv 2) pa_nil)))))))), ?_⟩
  · obtain ⟨n, _, s, a, kd, d, es, p, done, last, rfl, _⟩ := h
    rfl
  obtain ⟨n, hnN, h⟩ := h
  cases n with
  | zero =>
    obtain ⟨s, a, kd, d, es, p, done, last, rfl, hs, ⟨g, tl, gs, js, hp⟩, good, hd, v, hn, hok, hz, q⟩ := h
    obtain ⟨⟨dx, hsa⟩, hkd⟩ := hs
    obtain ⟨dp, hpa⟩ := hp.at_
    walk_at "go"
    refine ⟨_, _, rfl, .inr (.inl (.inl hd)), ?_⟩
    walk_at "go"
    refine ⟨_, _, rfl, .inl (SqL.of hp.ht), ?_⟩
    walk_at "go"
    refine ⟨rfl, ?_⟩
    rw [List.length_map, hp.lenT, vN_length, dec_nat, decide_eq_true (by omega)]
    walk_at "go"
    have z := q es H (Keep.refl) hkd hok (by omega) fun _ _ _ => rfl
    rw [bst_done p last (by omega)] at z
    exact z
  | succ n =>
  obtain ⟨s, a, kd, d, es, p, done, last, rfl, hs, ⟨g, tl, gs, js, hp⟩, good, hd, v, hn, hok, hz, q⟩ := h
  obtain ⟨⟨dx, hsa⟩, hkd⟩ := hs
  obtain ⟨dp, hpa⟩ := hp.at_
  have hvl := v.len
  have hj7 := good.j7
  refine tifs false (fun R q => ?_) (fun hb => by cases hb) (fun _ => ?_)
  · walk_at "go"
    refine ⟨_, _, rfl, .inr (.inl (.inl hd)), ?_⟩
    walk_at "go"
    refine ⟨_, _, rfl, .inl (SqL.of hp.ht), ?_⟩
    walk_at "go"
    refine ⟨rfl, ?_⟩
    rw [List.length_map, hp.lenT, vN_length, dec_nat, decide_eq_false (by omega)]
    exact ⟨_, rfl, q⟩
  dsimp only [tNext]
  refine (joinS (fun σ H' => ∃ es' v3 v4 v0, σ = [some (.ref s), some (.ref d), some (.int (gI last)), v3, v4] ∧ Keep [kd] H H' ∧ KDict P w H' kd es' ∧ DictOk p es' ∧ es'.length ≤ es.length + cnt (n + 1) ∧ (∀ dn k, dn.length < done.length → look es' dn k = look es dn k) ∧ look es' done (gI last) = some v0) (fun Nx hNx => ?_) (fun σ H' hσ => ?_))
  · walk_at "go"
    refine ⟨of_decide_eq_true rfl, fun t1 ht1 => ?_⟩
    generalize hH1 : upd H t1 _ = H1
    obtain ⟨e1, h11⟩ := new_at ht1 hH1
    have hsa1 := e1 _ _ hsa
    have hkd1 := hkd.go e1
    have hp1 := hp.same e1
    obtain ⟨dp1, hpa1⟩ := hp1.at_
    walk_at "go"
    refine ⟨kd, t1, d, done, gI last, es, rfl, rfl, h11, e1 _ _ hd, hkd1, ?_⟩
    refine ⟨_, rfl, ?_⟩
    cases hlk : look es done (gI last) with
    | some v0 =>
      rw [show (!(some v0 : Option Int).isSome) = false from rfl, if_neg (by decide)]
      exact hNx _ _ ⟨es, _, _, v0, rfl, Keep.of e1, hkd1, hok, by omega, fun _ _ _ => rfl, hlk⟩
    | none =>
      rw [show (!(none : Option Int).isSome) = true from rfl, if_pos rfl]
      walk_at "go"
      refine ⟨a, d, p, done, rfl, ⟨g, tl, gs, js, hp1⟩, good, .inr (.inl (.inl (e1 _ _ hd))), fun b H2 e2 hnb hb => ?_⟩
      have hmf := may_few v
      obtain ⟨i0, x0, xs0, hm0, hi0, hbst, _, hmin⟩ := bst_pick good v last (by omega)
      obtain ⟨ms, hms⟩ : ∃ ms, ms = mayRun p done p.jobs.length := ⟨_, rfl⟩
      rw [← hms] at hb hmf hm0
      have hkd2 := hkd1.go e2
      have hsa2 := e2 _ _ hsa1
      have hd2 := e2 _ _ (e1 _ _ hd)
      have hp2 := hp1.same e2
      have hbk : ∀ H', Keep [kd] H2 H' → H' b = some (.lst (vN ms)) := fun H' k => keep1 k hkd2.at_ hb (fun z => by cases z)
      have hcn : cnt (n + 1) = 1 + (n + 1) * cnt n := rfl
      refine ⟨b, rfl, ⟨_, SqL.of hb⟩, fun D hD => lc_list (xs := vN ms) (fun i H' => Keep [kd] H2 H' ∧ (∃ es', KDict P w H' kd es' ∧ DictOk p es' ∧ es'.length ≤ es.length + i * cnt n ∧ ∀ dn k, dn.length ≤ done.length → look es' dn k = look es dn k) ∧ H' D = some (.lst (((ms.take i).map fun k => ((fromOn p done last k : Nat) : Int)).map V.int))) ⟨Keep.put Keep.refl hD, ⟨es, hkd2.go (Same.new hD), hok, by omega, fun _ _ _ => rfl⟩, upd_same⟩ (fun i H' _ ⟨k, _⟩ => SqL.of (hbk H' k)) ?_ ?_⟩
      · rintro i x H3 hx ⟨k3, ⟨es3, hkd3, hok3, hz3, hlk3⟩, hD3⟩
        obtain ⟨m, hm, rfl⟩ := of_vN hx
        have hil : i < ms.length := (List.getElem?_eq_some_iff.mp hm).1
        have hin : (i + 1) * cnt n ≤ (n + 1) * cnt n := Nat.mul_le_mul_right _ (by omega)
        rw [Nat.succ_mul] at hin
        have hsa3 := keep1 k3 hkd2.at_ hsa2 (fun z => by cases z)
        have hd3 := keep1 k3 hkd2.at_ hd2 (fun z => by cases z)
        have hp3 := hp2.keep1 k3 hkd2.at_
        have hDk : D ≠ kd := (ne_of_none hkd2.at_ hD).symm
        refine ⟨rfl, ?_⟩
        dsimp only [tYes]
        rw [if_pos rfl]
        walk_at "go"
        refine ⟨n, by omega, s, a, kd, d, es3, p, done, last, m, rfl, ⟨⟨dx, hsa3⟩, hkd3⟩, ⟨g, tl, gs, js, hp3⟩, good, hd3, v, by rw [← hms]; exact List.mem_of_getElem? hm, by omega, hok3, by omega, fun es4 H4 k4 hkd4 hok4 hz4 hlk4 => ?_⟩
        have hD4 := keep1 k4 hkd3.at_ hD3 (fun z => by cases z)
        refine ⟨_, hD4, ?_, Keep.put (Keep.trans k3 k4) hD, ⟨es4, ?_, hok4, ?_, fun dn k hdn => (hlk4 dn k hdn).trans (hlk3 dn k hdn)⟩, ?_⟩
        · rw [List.length_map, List.length_map, List.length_take, sizeLine_eq]
          omega
        · exact ⟨by rw [upd_ne (Ne.symm hDk)]; exact hkd4.at_, hkd4.sm, fun x hx => by
            obtain ⟨t1, t2⟩ := hkd4.tups x hx
            exact ⟨by rw [upd_ne (ne_of t1 hD4 fun z => by cases z)]; exact t1, by rw [upd_ne (ne_of t2 hD4 fun z => by cases z)]; exact t2⟩⟩
        · rw [Nat.succ_mul]
          omega
        · rw [upd_same, take_more hm, List.map_append, List.map_append] <;> rfl
      · rintro H3 ⟨k3, ⟨es3, hkd3, hok3, hz3, hlk3⟩, hD3⟩
        rw [vN_length, List.take_length] at hD3
        rw [vN_length] at hz3
        have hin : ms.length * cnt n ≤ (n + 1) * cnt n := Nat.mul_le_mul_right _ (by omega)
        have hsa3 := keep1 k3 hkd2.at_ hsa2 (fun z => by cases z)
        have hd3 := keep1 k3 hkd2.at_ hd2 (fun z => by cases z)
        dsimp only [gName]
        walk_at "go"
        refine ⟨D, _, rfl, SqL.of hD3, by rw [List.length_map, hm0]; exact Nat.succ_pos _, fun mn hmn hle => ?_⟩
        have hmc : mn = ((bst p done last).cost : Nat) := by
          obtain ⟨k, hk, rfl⟩ := List.mem_map.mp hmn
          rw [hm0] at hk hle
          have h1 := hle _ (List.mem_map.mpr ⟨i0, hi0, rfl⟩)
          have h2 := hmin k hk
          rw [hbst]
          show ((fromOn p done last k : Nat) : Int) = ((fromOn p done last i0 : Nat) : Int)
          omega
        walk_at "go"
        refine ⟨of_decide_eq_true rfl, fun t4 ht4 => ?_⟩
        generalize hH4 : upd H3 t4 _ = H4
        obtain ⟨e4, h44⟩ := new_at ht4 hH4
        have hlk3' := hlk3 done (gI last) (Nat.le_refl _)
        rw [hlk] at hlk3'
        refine ⟨kd, t4, d, done, gI last, es3, mn, rfl, rfl, rfl, h44, e4 _ _ hd3, hkd3.go e4, hlk3', by omega, fun hkd5 => ?_⟩
        refine hNx _ _ ⟨_, _, _, mn, rfl, ?_, hkd5, ?_, ?_, fun dn k hdn => ?_, ?_⟩
        · exact Keep.upd (Keep.trans (Keep.trans (Keep.of (Same.trans e1 e2)) k3) (Keep.of e4)) (.inl (by simp))
        · intro e he
          rcases List.mem_append.mp he with he | he
          · exact hok3 e he
          · rw [List.mem_singleton] at he
            rw [he]
            exact ⟨last, rfl, hmc⟩
        · rw [List.length_append, List.length_singleton]
          omega
        · rw [look_more (fun z => by rw [← z] at hdn; exact Nat.lt_irrefl _ hdn)]
          exact hlk3 dn k (by omega)
        · exact look_snoc (e := ⟨done, gI last, t4, d, mn⟩) hlk3'
  · obtain ⟨es', v3, v4, v0, rfl, k1, hkd1, hok1, hz1, hkp, hlk⟩ := hσ
    have hsa1 := keep1 k1 hkd.at_ hsa (fun z => by cases z)
    have hd1 := keep1 k1 hkd.at_ hd (fun z => by cases z)
    walk_at "go"
    refine ⟨of_decide_eq_true rfl, fun t1 ht1 => ?_⟩
    generalize hH2 : upd H' t1 _ = H2
    obtain ⟨e2, h21⟩ := new_at ht1 hH2
    refine ⟨kd, t1, d, done, gI last, es', v0, rfl, rfl, h21, e2 _ _ hd1, hkd1.go e2, hlk, ?_⟩
    rw [look_ok hok1 hlk]
    exact q es' H2 (Keep.trans k1 (Keep.of e2)) (hkd1.go e2) hok1 hz1 hkp
/-- the tower -/
theorem met_least_up (T : Tx K mg) : ∀ N, Met P w K mg base (2 * N + 2) "Search" "least" (sp_leastL P w K N)
  | 0 => met_least0 T
  | N + 1 => met_least (k := 2 * N + 3) T (by omega) (met_from_on (k := 2 * N + 2) T (by omega) (met_least_up T N))
theorem met_from_up (T : Tx K mg) : Met P w K mg base 15 "Search" "from_on" (sp_fromL P w K 6) := met_from_on (k := 14) T (by omega) (met_least_up T 6)
end
end
section
local macro_rules | `(tactic| walk_at "v") => `(tactic| refine ⟨_, rfl, ?_⟩)
local macro_rules | `(tactic| walk_at "ii") => `(tactic| refine ⟨_, _, rfl, rfl, ?_⟩)
local macro_rules | `(tactic| walk_at "no") => `(tactic| first | exact n_Plan_groups ‹_› | exact n_Plan_tests ‹_› | exact n_Group_name ‹_› | exact n_Group_cost ‹_› | exact n_Test_name ‹_› | exact n_Test_cost ‹_› | exact n_Test_chance ‹_› | exact n_Test_group ‹_› | exact n_Test_behind ‹_› | exact n_Token_mark ‹_› | exact n_Token_some ‹_› | exact n_Token_place ‹_› | exact n_Reader_text ‹_› | exact n_Reader_at ‹_› | exact n_Reader_seen ‹_› | exact n_Search_plan ‹_› | exact n_Search_known ‹_› | exact n_Desk_plan ‹_›)
local macro_rules | `(tactic| walk_at "cl") => `(tactic| first | exact c_Plan ‹_› | exact c_Test ‹_› | exact c_Group ‹_› | exact c_Token ‹_› | exact c_Reader ‹_› | exact c_Search ‹_› | exact c_Desk ‹_›)
local macro_rules | `(tactic| walk_at "f") => `(tactic| (refine ⟨_, _, _, _, _, rfl, by first | assumption | exact upd_same, ?cl, ?no, rfl, ?_⟩; (case cl => walk_at "cl"); (case no => walk_at "no")))
local macro_rules | `(tactic| walk_at "m") => `(tactic| refine ⟨_, _, _, rfl, by first | assumption | exact upd_same, rfl, ?_⟩)
local macro_rules | `(tactic| walk_at "go") => `(tactic| repeat (first | walk_at "v" | walk_at "ii" | walk_at "f" | walk_at "m"))
local macro_rules | `(tactic| walk_at "s") => `(tactic| (refine ⟨_, _, _, _, rfl, by first | assumption | exact upd_same, ?cl, ?no, of_decide_eq_true rfl, ?_⟩; (case cl => walk_at "cl"); (case no => walk_at "no")))
abbrev N_Search_init : List Str := ["self", "plan"]
theorem sc_Search_init : FnScope N_Search_init ["self", "plan"] (defScope s_Search_init) := C8.fnScope_by (by decide +kernel)
abbrev N_Search_order : List Str := ["self", "done", "group", "found", "some", "number"]
theorem sc_Search_order : FnScope N_Search_order ["self"] (defScope s_Search_order) := C8.fnScope_by (by decide +kernel)
abbrev N_best_order : List Str := ["plan"]
theorem sc_best_order : FnScope N_best_order ["plan"] (defScope s_best_order) := C8.fnScope_by (by decide +kernel)
section
variable {P : Program} {w : World} {K : PySem.W.Frag} {mg : Str → Option Value} {base : Heap}
def sp_Search (P : Program) (w : World) (K : PySem.W.Frag) : Sp := fun vs H Q _ => ∃ (x dx a : Addr), vs = [.ref x, .ref a] ∧ H x = some (.ins (He.ga K "Search") dx []) ∧
  ∀ H' kd, (∃ dx, H' x = some (.ins (He.ga K "Search") dx [("plan", .ref a), ("known", .ref kd)])) → (∀ b o, H b = some o → b ≠ x → H' b = some o) → H kd = none → KDict P w H' kd [] → Q .non H'
theorem mak_Search (T : Tx K mg) : Mak P w K mg base 1 "Search" (sp_Search P w K) := by
  obtain ⟨fd, F⟩ := T.def_ 47 (d := d_Search_init) rfl
  refine mak_of F (mk_Search T) (g_Search T) sc_Search_init (fun _ _ _ _ _ _ us hl => match us, hl with | [_, _], _ => rfl) (fun vs H Q E h => ?_) fun cdv A outer s H vs Q E hr h => ⟨_, (pss_cons (ps_fld (pv 0) (pv 1) rfl)
    (pss_one (ps_fld (pv 0) pe_knew rfl))), ?_⟩
  · obtain ⟨x, dx, a, rfl, _⟩ := h
    rfl
  obtain ⟨x, dx, a, rfl, hx, q⟩ := h
  walk_at "go"
  walk_at "s"
  generalize hH1 : upd H x _ = H1
  have hx1 : H1 x = some (.ins (He.ga K "Search") dx [("plan", .ref a)]) := by
    subst hH1
    exact upd_same
  walk_at "go"
  intro kd hkd K1
  have hx2 : (upd H1 kd (kdH P w kd [])) x = some (.ins (He.ga K "Search") dx [("plan", .ref a)]) := Same.new hkd _ _ hx1
  have hkx : kd ≠ x := (ne_of_none hx1 hkd).symm
  have e2 : Same H1 (upd H1 kd (kdH P w kd [])) := Same.new hkd
  have hkd0 : H kd = none := by
    subst hH1
    rw [upd_ne hkx] at hkd
    exact hkd
  have K2 : KDict P w (upd H1 kd (kdH P w kd [])) kd [] := K1
  show tVar 0 _ (upd H1 kd (kdH P w kd [])) _
  generalize upd H1 kd (kdH P w kd []) = H2 at hx2 e2 K2 ⊢
  walk_at "go"
  walk_at "s"
  refine q _ kd ⟨dx, upd_same⟩ (fun b o hb hbx => ?_) hkd0 ⟨?_, K2.sm, fun e he => by cases he⟩
  · rw [upd_ne hbx]
    refine e2 _ _ ?_
    subst hH1
    rw [upd_ne hbx]
    exact hb
  · rw [upd_ne hkx]
    exact K2.at_
theorem cnt_le : ∀ n, n ≤ 6 → (n + 1) * cnt n ≤ 8659 := by
  intro n h
  rcases n with _ | _ | _ | _ | _ | _ | _ | n
  all_goals first | decide | omega
theorem minOf_P (x : Int × Int) (xs : List (Int × Int)) : PySem.W.minOf x xs = minP x xs := rfl
def sp_order (P : Program) (w : World) (K : PySem.W.Frag) : Sp := fun vs H Q _ => ∃ (s a kd : Addr) (p : Vatsld.Plan), vs = [.ref s] ∧ SearchAt P w K H s a kd [] ∧ PlanAt K H a p ∧ Good p ∧
  ∀ b H', Keep [kd] H H' → H b = none → H' b = some (.lst (vN (Vatsld.bestOrder p).order)) → Q (.ref b) H'
theorem met_order (T : Tx K mg) : Met P w K mg base 16 "Search" "order" (sp_order P w K) := by
  have c_may_run := cal_may_run (P := P) (w := w) (base := base) T
  have c_group_behind := cal_group_behind (P := P) (w := w) (base := base) T
  have c_Search_from_on := met_from_up (P := P) (w := w) (base := base) T
  obtain ⟨fd, F⟩ := T.def_ 50 (d := d_Search_order) rfl
  refine met_of F (c_Search T) (m_Search_order T) sc_Search_order (fun _ _ _ _ _ _ us hl => match us, hl with | [_], _ => rfl) (fun vs H Q E h => ?_) fun cdv A outer s H vs Q E hr h => ⟨_, (pss_cons (ps_set (i := 1) sc_Search_order.nd rfl (Or.inr rfl) (pe_tup pa_nil))
    (pss_cons (ps_set (i := 2) sc_Search_order.nd rfl (Or.inr rfl) (pe_gi (i_NO_GROUP T)))
    (pss_cons (ps_set (i := 3) sc_Search_order.nd rfl (Or.inl rfl) (pe_lst pa_nil))
    (pss_cons (ps_while (passes_of rfl) (pt_cmpR op_lt (pe_callB call_len_seq (by rfl) (f_len T) (by decide +kernel) (pa_cons (pv 3) pa_nil)) (pe_callB call_len_seq (by rfl) (f_len T) (by decide +kernel) (pa_cons (pe_fld (pe_fld (pv 0) rfl) rfl) pa_nil)) (nomark _)) (pss_cons (ps_setLc (i := 4) (own := [("number", 5)]) rfl sc_Search_order.nd rfl rfl (sw_true rfl rfl rfl (by decide +kernel)) (pi_list (pe_c c_may_run hr (by decide) passL (pa_cons (pe_fld (pv 0) rfl) (pa_cons (pv 1) pa_nil)))) (blkOk_by (own := [("number", 5)]) (N := N_Search_order) (sc := defScope s_Search_order) (by decide +kernel)) (fun _ _ _ _ _ => by exact (pg_name (i := 5) sc_Search_order.nd rfl (Or.inl rfl))) (fun _ _ _ _ _ => by exact pts_nil) (fun _ _ _ _ _ => by exact (pe_tup (pa_cons (pe_mtK (K := K) rfl c_Search_from_on hr (by decide) passL (pv 0) (pa_cons (pv 1) (pa_cons (pv 2) (pa_cons (pv 5) pa_nil)))) (pa_cons (pv 5) pa_nil)))))
    (pss_cons (ps_set (i := 5) sc_Search_order.nd rfl (Or.inl rfl) (pe_ix ix_tup (pe_callB (cr_minT rfl hr) (by rfl) (f_min T) (by decide +kernel) (pa_cons (pv 4) pa_nil)) pe_int (fun _ _ => rfl)))
    (pss_cons (ps_expr (pe_bm PySem.F.plainAttrs_list PySem.F.slot_list_append PySem.F.type_list_append mt_append (pv 3) (pa_cons (pv 5) pa_nil)))
    (pss_cons (ps_set (i := 1) sc_Search_order.nd rfl (Or.inr rfl) (pe_callTy call_tuple_of (by rfl) (f_tuple T) (by decide +kernel) (pa_cons (pe_callB cr_sortedTI (by rfl) (f_sorted T) (by decide +kernel) (pa_cons (pe_op op_catA (pv 1) (pe_tup (pa_cons (pv 5) pa_nil))) pa_nil)) pa_nil)))
    (pss_one (ps_set (i := 2) sc_Search_order.nd rfl (Or.inr rfl) (pe_c c_group_behind hr (by decide) passL (pa_cons (pe_fld (pv 0) rfl) (pa_cons (pv 5) (pa_cons (pv 2) pa_nil)))))))))))
    (pss_one (ps_ret (pv 3))))))), ?_⟩
  · obtain ⟨s, a, kd, p, rfl, _⟩ := h
    rfl
  obtain ⟨s, a, kd, p, rfl, ⟨⟨dx, hsa⟩, hkd⟩, ⟨g, tl, gs, js, hp⟩, good, q⟩ := h
  have hj7 := good.j7
  walk_at "go"
  refine ⟨of_decide_eq_true rfl, fun d0 hd0 => ?_⟩
  generalize hH1 : upd H d0 _ = H1
  obtain ⟨e1, h10⟩ := new_at hd0 hH1
  dsimp only [gName]
  walk_at "go"
  refine ⟨of_decide_eq_true rfl, fun f hf => ?_⟩
  generalize hH2 : upd H1 f _ = H2
  obtain ⟨e2, h2f⟩ := new_at hf hH2
  have hfH := Same.free e1 hf
  have hfk : f ≠ kd := (ne_of_none hkd.at_ hfH).symm
  dsimp only [gName]
  refine while_to (fun σ H' => ∃ d last es found done v4 v5, σ = [some (.ref s), some (.ref d), some (.int (gI last)), some (.ref f), v4, v5] ∧ Keep [kd] H H' ∧ KDict P w H' kd es ∧ DictOk p es ∧ es.length ≤ found.length * 8660 ∧ H' d = some (.tup (vN done)) ∧ H' f = some (.lst (vN found)) ∧ Valid p done ∧ done.length = found.length ∧ (Vatsld.bestOrder p).order = found ++ (bst p done last).order)
    (fun σ H' => (∃ v1 v2 v4 v5, σ = [some (.ref s), v1, v2, some (.ref f), v4, v5]) ∧ Keep [kd] H H' ∧ H' f = some (.lst (vN (Vatsld.bestOrder p).order)))
    (fun _ H' => match H' f with
      | some (.lst xs) => 8 - xs.length
      | _ => 0) ⟨d0, none, [], [], [], none, none, rfl, Keep.of (Same.trans e1 e2), hkd.go (Same.trans e1 e2), fun e he => (by cases he), Nat.zero_le _, e2 _ _ h10, h2f, valid_nil p, rfl, by rw [bst_all] <;> rfl⟩ ?_ ?_
  · rintro Nx hNx σ H3 ⟨d, last, es, found, done, v4, v5, rfl, k3, hkd3, hok, hz, hd3, hf3, v, hlen, hord⟩
    have hsa3 := keep1 k3 hkd.at_ hsa (fun z => by cases z)
    have hp3 := hp.keep1 k3 hkd.at_
    obtain ⟨dp3, hpa3⟩ := hp3.at_
    have hvl := v.len
    walk_at "go"
    refine ⟨_, _, rfl, .inl (SqL.of hf3), ?_⟩
    walk_at "go"
    refine ⟨_, _, rfl, .inl (SqL.of hp3.ht), ?_⟩
    walk_at "go"
    rw [vN_length, List.length_map, hp3.lenT, show decide (((found.length : Nat) : Int) < (p.jobs.length : Nat)) = decide (found.length < p.jobs.length) from decide_eq_decide.mpr (by omega)]
    by_cases hlt : found.length < p.jobs.length
    · rw [decide_eq_true hlt]
      refine turn ?_
      walk_at "go"
      refine ⟨a, d, p, done, rfl, ⟨g, tl, gs, js, hp3⟩, good, .inr (.inl (.inl hd3)), fun b H4 e4 hnb hb => ?_⟩
      have hmf := may_few v
      obtain ⟨i0, x0, xs0, hm0, hi0, hbst, hmin, _⟩ := bst_pick good v last (by omega)
      obtain ⟨ms, hms⟩ : ∃ ms, ms = mayRun p done p.jobs.length := ⟨_, rfl⟩
      have hi00 : i0 ∈ mayRun p done p.jobs.length := by rw [hm0]; exact hi0
      rw [← hms] at hb hmf hm0
      obtain ⟨n, hn⟩ : ∃ n, done.length + (n + 1) = p.jobs.length := ⟨p.jobs.length - done.length - 1, by omega⟩
      have hcl := cnt_le n (by omega)
      have hkd4 := hkd3.go e4
      have hsa4 := e4 _ _ hsa3
      have hd4 := e4 _ _ hd3
      have hf4 := e4 _ _ hf3
      have hp4 := hp3.same e4
      have hbk : ∀ H', Keep [kd] H4 H' → H' b = some (.lst (vN ms)) := fun H' k => keep1 k hkd4.at_ hb (fun z => by cases z)
      refine ⟨b, rfl, ⟨_, SqL.of hb⟩, fun D hD => lc_list (xs := vN ms) (fun i H' => Keep [kd] H4 H' ∧ (∃ es', KDict P w H' kd es' ∧ DictOk p es' ∧ es'.length ≤ es.length + i * cnt n) ∧ ∃ rs : List Addr, H' D = some (.lst (rs.map V.ref)) ∧ Paired (fun (r : Addr) (p : Int × Int) => H' r = some (.tup [.int p.1, .int p.2])) rs ((ms.take i).map (pr (fromOn p done last)))) ⟨Keep.put Keep.refl hD, ⟨es, hkd4.go (Same.new hD), hok, by omega⟩, [], upd_same, .nil⟩ (fun i H' _ ⟨k, _⟩ => SqL.of (hbk H' k)) ?_ ?_⟩
      · rintro i x H5 hx ⟨k5, ⟨es5, hkd5, hok5, hz5⟩, rs, hD5, hrs⟩
        obtain ⟨m, hm, rfl⟩ := of_vN hx
        have hil : i < ms.length := (List.getElem?_eq_some_iff.mp hm).1
        have hin : (i + 1) * cnt n ≤ (n + 1) * cnt n := Nat.mul_le_mul_right _ (by omega)
        rw [Nat.succ_mul] at hin
        have hsa5 := keep1 k5 hkd4.at_ hsa4 (fun z => by cases z)
        have hd5 := keep1 k5 hkd4.at_ hd4 (fun z => by cases z)
        have hp5 := hp4.keep1 k5 hkd4.at_
        have hDk : D ≠ kd := (ne_of_none hkd4.at_ hD).symm
        refine ⟨rfl, ?_⟩
        dsimp only [tYes]
        rw [if_pos rfl]
        walk_at "go"
        refine ⟨n, by omega, s, a, kd, d, es5, p, done, last, m, rfl, ⟨⟨dx, hsa5⟩, hkd5⟩, ⟨g, tl, gs, js, hp5⟩, good, hd5, v, by rw [← hms]; exact List.mem_of_getElem? hm, hn, hok5, by omega, fun es6 H6 k6 hkd6 hok6 hz6 _ => ?_⟩
        have hD6 := keep1 k6 hkd5.at_ hD5 (fun z => by cases z)
        walk_at "go"
        refine ⟨of_decide_eq_true rfl, fun y hy => ?_⟩
        generalize hH7 : upd H6 y _ = H7
        obtain ⟨e7, hy7⟩ := new_at hy hH7
        have hD7 := e7 _ _ hD6
        have hkd7 := hkd6.go e7
        have hyD : ∀ r : Addr, ∀ xs, H7 r = some (.tup xs) → (upd H7 D (.lst (rs.map V.ref ++ [.ref y]))) r = some (.tup xs) := fun r xs hr => by
          rw [upd_ne (ne_of hr hD7 fun z => by cases z)]
          exact hr
        refine ⟨_, hD7, ?_, Keep.put (Keep.trans (Keep.trans k5 k6) (Keep.of e7)) hD, ⟨es6, ?_, hok6, ?_⟩, rs ++ [y], ?_, ?_⟩
        · have z := pair_len hrs
          rw [List.length_map, List.length_take] at z
          rw [List.length_map, z, sizeLine_eq]
          omega
        · exact ⟨by rw [upd_ne (Ne.symm hDk)]; exact hkd7.at_, hkd7.sm, fun x hx => ⟨hyD _ _ (hkd7.tups x hx).1, hyD _ _ (hkd7.tups x hx).2⟩⟩
        · rw [Nat.succ_mul]
          omega
        · rw [upd_same, List.map_append] <;> rfl
        · rw [take_more hm, List.map_append]
          refine pair_append (Paired.mapP hrs fun r p' z => hyD _ _ (e7 _ _ (keep1 k6 hkd5.at_ z (fun z => by cases z)))) (.cons (hyD _ _ hy7) .nil)
      · rintro H5 ⟨k5, ⟨es5, hkd5, hok5, hz5⟩, rs, hD5, hrs⟩
        rw [vN_length, List.take_length] at hrs
        rw [vN_length] at hz5
        have hin : ms.length * cnt n ≤ (n + 1) * cnt n := Nat.mul_le_mul_right _ (by omega)
        have hsa5 := keep1 k5 hkd4.at_ hsa4 (fun z => by cases z)
        have hd5 := keep1 k5 hkd4.at_ hd4 (fun z => by cases z)
        have hf5 := keep1 k5 hkd4.at_ hf4 (fun z => by cases z)
        have k05 : Keep [kd] H H5 := Keep.trans (Keep.trans k3 (Keep.of e4)) k5
        rw [hm0] at hrs
        dsimp only [gName]
        walk_at "go"
        refine ⟨D, rs, pr (fromOn p done last) x0, xs0.map (pr (fromOn p done last)), rfl, SqL.of hD5, Paired.mapP hrs fun r p' z => .inl (.inl z), fun r hr => ?_⟩
        rw [minOf_P, hmin] at hr
        walk_at "go"
        refine ⟨_, _, _, _, rfl, rfl, hr, atI_nat (j := 1) rfl, ?_⟩
        walk_at "go"
        refine ⟨.inl ⟨rfl, _, SqL.of hf5⟩, ?_⟩
        walk_at "go"
        have hfl : found.length ≤ 7 := by omega
        refine ⟨_, _, _, rfl, rfl, hf5, by rw [vN_length, sizeLine_eq]; omega, ?_⟩
        have ef : vN found ++ [V.int (i0 : Nat)] = vN (found ++ [i0]) := by rw [vN_append] <;> rfl
        show tSeq _ _ _ _ (upd H5 f (.lst (vN found ++ [V.int (i0 : Nat)])))
        rw [ef]
        generalize hH6 : upd H5 f _ = H6
        have hf6 : H6 f = some (.lst (vN (found ++ [i0]))) := by
          subst hH6
          exact upd_same
        have hne6 : ∀ b' o, H5 b' = some o → b' ≠ f → H6 b' = some o := fun b' o hb' hbf => by
          subst hH6
          rw [upd_ne hbf]
          exact hb'
        have k06 : Keep [kd] H H6 := by
          subst hH6
          exact Keep.put k05 hfH
        have hsa6 := keep1 k06 hkd.at_ hsa (fun z => by cases z)
        have hp6 := hp.keep1 k06 hkd.at_
        have hd6 := hne6 _ _ hd5 (ne_of hd5 hf5 fun z => by cases z)
        have hkd6 : KDict P w H6 kd es5 := ⟨hne6 _ _ hkd5.at_ hfk.symm, hkd5.sm, fun e he => ⟨hne6 _ _ (hkd5.tups e he).1 (ne_of (hkd5.tups e he).1 hf5 fun z => by cases z), hne6 _ _ (hkd5.tups e he).2 (ne_of (hkd5.tups e he).2 hf5 fun z => by cases z)⟩⟩
        show tSeq _ _ _ ((_ : L2.St).set 5 (some (.int ((i0 : Nat) : Int)))) H6
        walk_at "go"
        refine ⟨of_decide_eq_true rfl, fun t1 ht1 => ?_⟩
        generalize hH7 : upd H6 t1 _ = H7
        obtain ⟨e7, h71⟩ := new_at ht1 hH7
        refine cat_any (.inl (.inl (e7 _ _ hd6))) (.inl (.inl h71)) (by rw [vN_length, sizeLine_eq]; show _ + 1 ≤ _; omega) fun p2 H8 e8 hp2 => ?_
        have ey : vN done ++ [V.int (i0 : Nat)] = ((done ++ [i0]).map fun n : Nat => (n : Int)).map V.int := by
          rw [← vN_eq, vN_append] <;> rfl
        rw [ey] at hp2
        refine ⟨p2, _, rfl, hp2, fun ns' p3 hpm hso hp3 => ?_⟩
        obtain ⟨ms', rfl, hms'⟩ := nats_of_perm hpm
        rw [← vN_eq]
        generalize hH9 : upd H8 p3 _ = H9
        obtain ⟨e9, hp33⟩ := new_at hp3 hH9
        refine ⟨_, _, rfl, .inl ⟨SqL.of hp33, fun p4 hp4' => ?_⟩⟩
        generalize hH10 : upd H9 p4 _ = H10
        obtain ⟨e10, hp44⟩ := new_at hp4' hH10
        have e610 : Same H6 H10 := Same.trans e7 (Same.trans e8 (Same.trans e9 e10))
        have hsa10 := e610 _ _ hsa6
        have hp10 := hp6.same e610
        have hf10 := e610 _ _ hf6
        have hil := mayRun_lt hi00
        dsimp only [gName]
        walk_at "go"
        refine ⟨a, p, i0, last, rfl, ⟨g, tl, gs, js, hp10⟩, hil, ?_⟩
        refine ⟨⟨p4, Vatsld.groupAfter p last i0, es5, found ++ [i0], ms', some (.ref D), some (.int (i0 : Nat)), rfl, Keep.trans k06 (Keep.of e610), hkd6.go e610, hok5, ?_, hp44, hf10, (v.snoc hi00).perm hms'.symm, ?_, ?_⟩, ?_⟩
        · rw [List.length_append, List.length_singleton]
          omega
        · rw [hms'.length_eq, List.length_append, List.length_append, hlen]
        · rw [hord, hbst, bst_sim p _ hms', List.append_assoc] <;> rfl
        · dsimp only
          rw [hf10, hf3]
          dsimp only
          rw [vN_length, vN_length, List.length_append, List.length_singleton]
          omega
    · rw [decide_eq_false hlt]
      have hb0 : (bst p done last).order = [] := by rw [bst_done p last (by omega)]
      rw [hb0, List.append_nil] at hord
      refine hNx _ _ ⟨⟨_, _, _, _, rfl⟩, k3, ?_⟩
      rw [hord]
      exact hf3
  · rintro σ H3 ⟨⟨v1, v2, v4, v5, rfl⟩, k3, hf3⟩
    walk_at "go"
    exact q f H3 k3 hfH hf3
def sp_best_order (K : PySem.W.Frag) : Sp := fun vs H Q _ => ∃ (a : Addr) (p : Vatsld.Plan), vs = [.ref a] ∧ PlanAt K H a p ∧ Good p ∧
  ∀ b H', Same H H' → H b = none → H' b = some (.lst (vN (Vatsld.bestOrder p).order)) → Q (.ref b) H'
theorem cal_best_order (T : Tx K mg) : Cal P w K mg base 17 "best_order" (sp_best_order K) := by
  have c_Search := mak_Search (P := P) (w := w) (base := base) T
  have c_Search_order := met_order (P := P) (w := w) (base := base) T
  obtain ⟨fd, F⟩ := T.def_ 51 (d := d_best_order) rfl
  refine cal_of F (g_best_order T) sc_best_order (fun _ _ _ _ _ _ us hl => match us, hl with | [_], _ => rfl) (fun vs H Q E h => ?_) fun cdv A outer s H vs Q E hr h => ⟨_, (pss_one (ps_ret (pe_mt0 c_Search_order hr (by decide) passL (pe_mk c_Search hr (by decide) passL (pa_cons (pv 0) pa_nil))))), ?_⟩
  · obtain ⟨a, p, rfl, _⟩ := h
    rfl
  obtain ⟨a, p, rfl, hp, good, q⟩ := h
  walk_at "go"
  intro x dx hx hdx hne
  refine ⟨x, dx, a, rfl, upd_same, fun H1 kd hs1 e1 hkd1 K1 => ⟨rfl, ?_⟩⟩
  have e01 : Same H H1 := Same.made hx hdx e1
  have hkd : H kd = none := by
    by_cases z : kd = x
    · rw [z]
      exact hx
    · rw [upd_ne z] at hkd1
      by_cases z2 : kd = dx
      · rw [z2]
        exact hdx
      · rw [upd_ne z2] at hkd1
        exact hkd1
  walk_at "go"
  obtain ⟨dx1, hsx⟩ := hs1
  refine ⟨x, dx1, _, rfl, hsx, rfl, ?_⟩
  refine ⟨x, a, kd, p, rfl, ⟨⟨dx1, hsx⟩, K1⟩, hp.same e01, good, fun b H2 k2 hb1 hb2 => ?_⟩
  exact q b H2 (Keep.same e01 k2 fun b hb => by rw [List.mem_singleton] at hb; rw [hb]; exact hkd) (Same.free e01 hb1) hb2
end
end
section
local macro_rules | `(tactic| walk_at "v") => `(tactic| refine ⟨_, rfl, ?_⟩)
local macro_rules | `(tactic| walk_at "ii") => `(tactic| refine ⟨_, _, rfl, rfl, ?_⟩)
local macro_rules | `(tactic| walk_at "no") => `(tactic| first | exact n_Plan_groups ‹_› | exact n_Plan_tests ‹_› | exact n_Group_name ‹_› | exact n_Group_cost ‹_› | exact n_Test_name ‹_› | exact n_Test_cost ‹_› | exact n_Test_chance ‹_› | exact n_Test_group ‹_› | exact n_Test_behind ‹_› | exact n_Token_mark ‹_› | exact n_Token_some ‹_› | exact n_Token_place ‹_› | exact n_Reader_text ‹_› | exact n_Reader_at ‹_› | exact n_Reader_seen ‹_› | exact n_Search_plan ‹_› | exact n_Search_known ‹_› | exact n_Desk_plan ‹_›)
local macro_rules | `(tactic| walk_at "cl") => `(tactic| first | exact c_Plan ‹_› | exact c_Test ‹_› | exact c_Group ‹_› | exact c_Token ‹_› | exact c_Reader ‹_› | exact c_Search ‹_› | exact c_Desk ‹_›)
local macro_rules | `(tactic| walk_at "f") => `(tactic| (refine ⟨_, _, _, _, _, rfl, by first | assumption | exact upd_same, ?cl, ?no, rfl, ?_⟩; (case cl => walk_at "cl"); (case no => walk_at "no")))
local macro_rules | `(tactic| walk_at "m") => `(tactic| refine ⟨_, _, _, rfl, by first | assumption | exact upd_same, rfl, ?_⟩)
local macro_rules | `(tactic| walk_at "go") => `(tactic| repeat (first | walk_at "v" | walk_at "ii" | walk_at "f" | walk_at "m"))
local macro_rules | `(tactic| walk_at "s") => `(tactic| (refine ⟨_, _, _, _, rfl, by first | assumption | exact upd_same, ?cl, ?no, of_decide_eq_true rfl, ?_⟩; (case cl => walk_at "cl"); (case no => walk_at "no")))
abbrev N_Refused_init : List Str := ["self", "code"]
theorem sc_Refused_init : FnScope N_Refused_init ["self", "code"] (defScope s_Refused_init) := C8.fnScope_by (by decide +kernel)
abbrev N_Desk_init : List Str := ["self"]
theorem sc_Desk_init : FnScope N_Desk_init ["self"] (defScope s_Desk_init) := C8.fnScope_by (by decide +kernel)
abbrev N_refuse_where : List Str := ["truth", "code"]
theorem sc_refuse_where : FnScope N_refuse_where ["truth", "code"] (defScope s_refuse_where) := C8.fnScope_by (by decide +kernel)
abbrev N_expected_told : List Str := ["plan", "order"]
theorem sc_expected_told : FnScope N_expected_told ["plan", "order"] (defScope s_expected_told) := C8.fnScope_by (by decide +kernel)
abbrev N_order_told : List Str := ["plan", "order"]
theorem sc_order_told : FnScope N_order_told ["plan", "order"] (defScope s_order_told) := C8.fnScope_by (by decide +kernel)
abbrev N_ask_machines : List Str := ["many"]
theorem sc_ask_machines : FnScope N_ask_machines ["many"] (defScope s_ask_machines) := C8.fnScope_by (by decide +kernel)
abbrev N_machines : List Str := ["plan", "many", "way"]
theorem sc_machines : FnScope N_machines ["plan", "many"] (defScope s_machines) := C8.fnScope_by (by decide +kernel)
abbrev N_time_told : List Str := ["plan", "many", "way"]
theorem sc_time_told : FnScope N_time_told ["plan", "many", "way"] (defScope s_time_told) := C8.fnScope_by (by decide +kernel)
abbrev N_budget : List Str := ["plan", "most", "some"]
theorem sc_budget : FnScope N_budget ["plan", "most"] (defScope s_budget) := C8.fnScope_by (by decide +kernel)
abbrev N_size : List Str := ["plan", "tests"]
theorem sc_size : FnScope N_size ["plan"] (defScope s_size) := C8.fnScope_by (by decide +kernel)
section
variable {P : Program} {w : World} {K : PySem.W.Frag} {mg : Str → Option Value} {base : Heap}
def sp_Refused (K : PySem.W.Frag) : Sp := fun vs H Q _ => ∃ (a : Addr) (c : V), vs = [.ref a, c] ∧ H a = some (exo a (He.ga K "Refused") none) ∧
  ∀ d H', H d = none → d ≠ a → H' a = some (exo a (He.ga K "Refused") (some d)) → H' d = some (exd d [("code", c)]) → (∀ b o, H b = some o → b ≠ a → H' b = some o) → Q .non H'
theorem oxi_Refused (T : Tx K mg) : Oxi P w K mg base 1 "Refused" (sp_Refused K) := by
  obtain ⟨fd, F⟩ := T.def_ 55 (d := d_Refused_init) rfl
  refine oxi_of (x := "Refused") F sc_Refused_init (fun _ _ _ _ _ _ us hl => match us, hl with | [_, _], _ => rfl) (fun vs H Q E h => ?_) fun cdv A outer s H vs Q E hr h => ⟨_, (pss_one (ps_ost (pv 0) (pv 1))), ?_⟩
  · obtain ⟨a, c, rfl, _⟩ := h
    rfl
  obtain ⟨a, c, rfl, ha, q⟩ := h
  walk_at "go"
  refine ⟨_, _, rfl, (o_Refused T).1, n_Refused_code T, .inl ⟨ha, fun d hd hda => ?_⟩⟩
  refine q d _ hd hda ?_ ?_ ?_
  · rw [upd_same]
  · rw [upd_ne hda, upd_same]
  · intro b o hb hba
    rw [upd_ne hba, upd_ne (ne_of_none hb hd)]
    exact hb
/-- a refusal told -/
def RE (K : PySem.W.Frag) (E : XK) (c : Int) (H : Hp) : Prop := ∀ d H', Same H H' → H' d = some (.xd [("code", .int c)]) → E (.ref (He.ga K "Refused")) (some d) H'
theorem RE.go {E : XK} {c : Int} {H H' : Hp} (h : RE K E c H) (e : Same H H') : RE K E c H' := fun d H'' e' hd => h d H'' (Same.trans e e') hd
theorem RE.made {E : XK} {c : Int} {H : Hp} {a : Addr} (h : RE K E c H) (ha : H a = none) : sp_Refused K [.ref a, .int c] (upd H a (exo a (He.ga K "Refused") none))
    (fun v H2 => v = .non ∧ ∃ (d : Addr) (fs : List (Str × V)), H2 a = some (exo a (He.ga K "Refused") (some d)) ∧ H2 d = some (exd d fs) ∧ H d = none ∧ E (.ref (He.ga K "Refused")) (some d) (upd (del H2 a) d (.xd fs))) (fun _ _ _ => False) := by
  refine ⟨a, _, rfl, upd_same, fun d H' hd hda e1 e2 e3 => ⟨rfl, d, _, e1, e2, ?_, ?_⟩⟩
  · rw [upd_ne hda] at hd
    exact hd
  · refine h d _ (fun b o hb => ?_) upd_same
    have hba : b ≠ a := ne_of_none hb ha
    have hbd : b ≠ d := by
      rw [upd_ne hda] at hd
      exact ne_of_none hb hd
    rw [upd_ne hbd, del_ne hba]
    exact e3 b o (by rw [upd_ne hba]; exact hb) hba
theorem nb1 {b : Bool} (h : (!b) = true) : b = false := by cases b <;> first | rfl | cases h
theorem nb2 {b : Bool} (h : (!b) = false) : b = true := by cases b <;> first | rfl | cases h
def sp_refuse (K : PySem.W.Frag) : Sp := fun vs H Q E => ∃ (b : Bool) (c : Int), vs = [.bl b, .int c] ∧ (b = true → RE K E c H) ∧ (b = false → Q .non H)
theorem cal_refuse_where (T : Tx K mg) : Cal P w K mg base 3 "refuse_where" (sp_refuse K) := by
  have c_Refused := oxi_Refused (P := P) (w := w) (base := base) T
  obtain ⟨fd, F⟩ := T.def_ 57 (d := d_refuse_where) rfl
  refine cal_of F (g_refuse_where T) sc_refuse_where (fun _ _ _ _ _ _ us hl => match us, hl with | [_, _], _ => rfl) (fun vs H Q E h => ?_) fun cdv A outer s H vs Q E hr h => ⟨_, (pss_one (ps_if (pt_val (pv 0)) (pss_one (ps_raise rfl (takes_of rfl rfl rfl rfl) (pmk_ox (o_Refused T) c_Refused hr (by decide) (g_Refused T) (pa_cons (pv 1) pa_nil)))) pss_nil)), ?_⟩
  · obtain ⟨b, c, rfl, _⟩ := h
    rfl
  obtain ⟨b, c, rfl, h1, h2⟩ := h
  walk_at "go"
  cases b with
  | true =>
    walk_at "go"
    exact ⟨of_decide_eq_true rfl, fun a ha => RE.made (h1 rfl) ha⟩
  | false =>
    walk_at "go"
    exact h2 rfl
def sp_Desk (K : PySem.W.Frag) : Sp := fun vs H Q _ => ∃ (x dx : Addr), vs = [.ref x] ∧ H x = some (.ins (He.ga K "Desk") dx []) ∧
  ∀ H' a g t, (∃ dx, H' x = some (.ins (He.ga K "Desk") dx [("plan", .ref a)])) → PlanL K H' a g t [] [] Vatsld.emptyPlan → H g = none → H t = none → (∀ b o, H b = some o → b ≠ x → H' b = some o) → Q .non H'
theorem mak_Desk (T : Tx K mg) : Mak P w K mg base 3 "Desk" (sp_Desk K) := by
  have c_Plan := mak_Plan (P := P) (w := w) (base := base) T
  obtain ⟨fd, F⟩ := T.def_ 56 (d := d_Desk_init) rfl
  refine mak_of F (mk_Desk T) (g_Desk T) sc_Desk_init (fun _ _ _ _ _ _ us hl => match us, hl with | [_], _ => rfl) (fun vs H Q E h => ?_) fun cdv A outer s H vs Q E hr h => ⟨_, (pss_one (ps_fld (pv 0) (pe_mk0 c_Plan hr (by decide) passL) rfl)), ?_⟩
  · obtain ⟨x, dx, rfl, _⟩ := h
    rfl
  obtain ⟨x, dx, rfl, hx, q⟩ := h
  walk_at "go"
  intro a da hna hda hne
  refine ⟨a, da, rfl, upd_same, fun H2 g tl hp2 e22 hng hnt hga hta => ⟨rfl, ?_⟩⟩
  have e2 := Same.made hna hda e22
  have hx2 := e2 _ _ hx
  walk_at "go"
  walk_at "s"
  have old : ∀ b, (upd (upd H da (.own a)) a (.ins (He.ga K "Plan") da [])) b = none → b ≠ a → H b = none := fun b hb hba => by
    rw [upd_ne hba] at hb
    by_cases z : b = da
    · rw [z, upd_same] at hb
      cases hb
    · rw [upd_ne z] at hb
      exact hb
  refine q _ a g tl ⟨dx, upd_same⟩ ?_ (old _ hng hga) (old _ hnt hta) (fun b o hb hbx => ?_)
  · obtain ⟨⟨dp, h1⟩, h2, h3, h4, h5, h6⟩ := hp2
    have nx : ∀ b xs, H2 b = some (.lst xs) → b ≠ x := fun b xs hb => ne_of hb hx2 fun z => by cases z
    have hax : a ≠ x := (ne_of_none hx hna).symm
    exact ⟨⟨dp, by rw [upd_ne hax]; exact h1⟩, by rw [upd_ne (nx _ _ h2)]; exact h2, by rw [upd_ne (nx _ _ h3)]; exact h3, .nil, .nil, h6⟩
  · rw [upd_ne hbx]
    exact e2 _ _ hb
def sp_ask (K : PySem.W.Frag) : Sp := fun vs H Q E => ∃ (m : Int), vs = [.int m] ∧ (Vatsld.isMachines m = false → RE K E (-7) H) ∧ (Vatsld.isMachines m = true → Q .non H)
theorem cal_ask_machines (T : Tx K mg) : Cal P w K mg base 4 "ask_machines" (sp_ask K) := by
  have c_refuse_where := cal_refuse_where (P := P) (w := w) (base := base) T
  obtain ⟨fd, F⟩ := T.def_ 61 (d := d_ask_machines) rfl
  refine cal_of F (g_ask_machines T) sc_ask_machines (fun _ _ _ _ _ _ us hl => match us, hl with | [_], _ => rfl) (fun vs H Q E h => ?_) fun cdv A outer s H vs Q E hr h => ⟨_, (pss_one (ps_expr (pe_c c_refuse_where hr (by decide) (passes_call (takes_of rfl rfl rfl rfl) fun _ _ _ _ z => z) (pa_cons (pe_not (pe_chain op_le op_le pe_int (pv 0) (pe_gi (i_MOST_MACHINES T)))) (pa_cons (pe_gi (i_NOT_SO T)) pa_nil))))), ?_⟩
  · obtain ⟨m, rfl, _⟩ := h
    rfl
  obtain ⟨m, rfl, h1, h2⟩ := h
  walk_at "go"
  have key : ∀ b, b = Vatsld.isMachines m → sp_refuse K [.bl (!b), .int (-7)] H (fun _ H' => Q .non H') E := by
    rintro b rfl
    exact ⟨_, _, rfl, fun h => h1 (nb1 h), fun h => h2 (nb2 h)⟩
  by_cases h0 : 1 ≤ m
  · rw [decide_eq_true h0, if_pos rfl]
    walk_at "go"
    exact key _ (by unfold Vatsld.isMachines; rw [decide_eq_true h0, Bool.true_and] <;> rfl)
  · rw [decide_eq_false h0, if_neg (by decide)]
    walk_at "go"
    exact key _ (by unfold Vatsld.isMachines; rw [decide_eq_false h0, Bool.false_and])
def sp_expected_told (K : PySem.W.Frag) : Sp := fun vs H Q E => ∃ (a l : Addr) (p : Vatsld.Plan) (ns : List Int), vs = [.ref a, .ref l] ∧ PlanAt K H a p ∧ Good p ∧ SqL K H l (ns.map V.int) ∧
  ((Vatsld.isRow p.jobs.length ns && Vatsld.isOrder p (Vatsld.toNats ns)) = false → RE K E (-12) H) ∧
  ((Vatsld.isRow p.jobs.length ns && Vatsld.isOrder p (Vatsld.toNats ns)) = true → ∀ b H', Same H H' → H' b = some (.lst [.int 0, .int (Vatsld.expectedOf p (Vatsld.toNats ns) : Nat)]) → Q (.ref b) H')
theorem cal_expected_told (T : Tx K mg) : Cal P w K mg base 4 "expected_told" (sp_expected_told K) := by
  have c_refuse_where := cal_refuse_where (P := P) (w := w) (base := base) T
  have c_is_order := cal_is_order (P := P) (w := w) (base := base) T
  have c_expected := cal_expected (P := P) (w := w) (base := base) T
  obtain ⟨fd, F⟩ := T.def_ 59 (d := d_expected_told) rfl
  refine cal_of F (g_expected_told T) sc_expected_told (fun _ _ _ _ _ _ us hl => match us, hl with | [_, _], _ => rfl) (fun vs H Q E h => ?_) fun cdv A outer s H vs Q E hr h => ⟨_, (pss_cons (ps_expr (pe_c c_refuse_where hr (by decide) (passes_call (takes_of rfl rfl rfl rfl) fun _ _ _ _ z => z) (pa_cons (pe_not (pe_c c_is_order hr (by decide) passL (pa_cons (pv 0) (pa_cons (pv 1) pa_nil)))) (pa_cons (pe_gi (i_NO_LIST T)) pa_nil))))
    (pss_one (ps_ret (pe_lst (pa_cons pe_int (pa_cons (pe_c c_expected hr (by decide) passL (pa_cons (pv 0) (pa_cons (pv 1) pa_nil))) pa_nil)))))), ?_⟩
  · obtain ⟨a, l, p, ns, rfl, _⟩ := h
    rfl
  obtain ⟨a, l, p, ns, rfl, hp, good, hl, hno, q⟩ := h
  walk_at "go"
  refine ⟨a, l, p, ns, rfl, hp, good, hl, fun H1 e1 => ?_⟩
  walk_at "go"
  refine ⟨_, _, rfl, fun h => (hno (nb1 h)).go e1, fun h => ?_⟩
  have hb : (Vatsld.isRow p.jobs.length ns && Vatsld.isOrder p (Vatsld.toNats ns)) = true := nb2 h
  have q2 := q hb
  rw [Bool.and_eq_true] at hb
  obtain ⟨hrow, hord⟩ := hb
  obtain ⟨hns, hlt⟩ := row_nats hrow
  have hlen : (Vatsld.toNats ns).length = p.jobs.length := by
    rw [isOrder_up, Bool.and_eq_true, Bool.and_eq_true, beq_iff_eq] at hord
    exact hord.1.1
  have hl1 : SqL K H1 l (vN (Vatsld.toNats ns)) := by
    rw [vN_eq, ← hns]
    exact L2.Same.seq e1 hl
  have hj7 := good.j7
  walk_at "go"
  refine ⟨a, l, p, _, rfl, hp.same e1, good, hl1, hlt, by omega, fun H2 e2 => ?_⟩
  walk_at "go"
  refine ⟨of_decide_eq_true rfl, fun b hb => ?_⟩
  generalize hH3 : upd H2 b _ = H3
  obtain ⟨e3, hb3⟩ := new_at hb hH3
  exact q2 b H3 (Same.trans e1 (Same.trans e2 e3)) hb3
/-- order and its cost -/
def sp_order_told (K : PySem.W.Frag) : Sp := fun vs H Q E => ∃ (a l : Addr) (p : Vatsld.Plan) (o : List Nat), vs = [.ref a, .ref l] ∧ PlanAt K H a p ∧ Good p ∧ H l = some (.lst (vN o)) ∧ (∀ n ∈ o, n < p.jobs.length) ∧ o.length ≤ 7 ∧
  ∀ b H', Same H H' → H' b = some (.lst ([V.int 0, V.int (Vatsld.expectedOf p o : Nat)] ++ vN o)) → Q (.ref b) H'
theorem cal_order_told (T : Tx K mg) : Cal P w K mg base 4 "order_told" (sp_order_told K) := by
  have c_expected := cal_expected (P := P) (w := w) (base := base) T
  obtain ⟨fd, F⟩ := T.def_ 60 (d := d_order_told) rfl
  refine cal_of F (g_order_told T) sc_order_told (fun _ _ _ _ _ _ us hl => match us, hl with | [_, _], _ => rfl) (fun vs H Q E h => ?_) fun cdv A outer s H vs Q E hr h => ⟨_, (pss_one (ps_ret (pe_op op_cat (pe_lst (pa_cons pe_int (pa_cons (pe_c c_expected hr (by decide) passL (pa_cons (pv 0) (pa_cons (pv 1) pa_nil))) pa_nil))) (pv 1)))), ?_⟩
  · obtain ⟨a, l, p, o, rfl, _⟩ := h
    rfl
  obtain ⟨a, l, p, o, rfl, hp, good, hl, hlt, h7, q⟩ := h
  walk_at "go"
  refine ⟨a, l, p, o, rfl, hp, good, SqL.of hl, hlt, h7, fun H1 e1 => ?_⟩
  walk_at "go"
  refine ⟨of_decide_eq_true rfl, fun u hu => ?_⟩
  generalize hH2 : upd H1 u _ = H2
  obtain ⟨e2, hu2⟩ := new_at hu hH2
  walk_at "go"
  refine ⟨_, _, _, _, rfl, rfl, hu2, e2 _ _ (e1 _ _ hl), ?_, fun b hb => ?_⟩
  · rw [vN_length, sizeLine_eq]
    show 2 + _ ≤ _
    omega
  · generalize hH3 : upd H2 b _ = H3
    obtain ⟨e3, hb3⟩ := new_at hb hH3
    exact q b H3 (Same.trans e1 (Same.trans e2 e3)) hb3
def sp_machines (K : PySem.W.Frag) : Sp := fun vs H Q E => ∃ (a : Addr) (p : Vatsld.Plan) (m : Int), vs = [.ref a, .int m] ∧ PlanAt K H a p ∧ Good p ∧ (Vatsld.isMachines m = false → RE K E (-7) H) ∧
  (Vatsld.isMachines m = true → ∀ b H', Same H H' → H' b = some (.lst ((Vatsld.machinesRow p m.toNat).map V.int)) → Q (.ref b) H')
theorem cal_machines (T : Tx K mg) : Cal P w K mg base 5 "machines" (sp_machines K) := by
  have c_ask_machines := cal_ask_machines (P := P) (w := w) (base := base) T
  have c_best_way := cal_best_way (P := P) (w := w) (base := base) T
  have c_time_of := cal_time_of (P := P) (w := w) (base := base) T
  obtain ⟨fd, F⟩ := T.def_ 62 (d := d_machines) rfl
  refine cal_of F (g_machines T) sc_machines (fun _ _ _ _ _ _ us hl => match us, hl with | [_, _], _ => rfl) (fun vs H Q E h => ?_) fun cdv A outer s H vs Q E hr h => ⟨_, (pss_cons (ps_expr (pe_c c_ask_machines hr (by decide) (passes_call (takes_of rfl rfl rfl rfl) fun _ _ _ _ z => z) (pa_cons (pv 1) pa_nil)))
    (pss_cons (ps_set (i := 2) sc_machines.nd rfl (Or.inl rfl) (pe_c c_best_way hr (by decide) passL (pa_cons (pv 0) (pa_cons (pv 1) pa_nil))))
    (pss_one (ps_ret (pe_op op_cat (pe_lst (pa_cons pe_int (pa_cons (pe_c c_time_of hr (by decide) passL (pa_cons (pv 0) (pa_cons (pv 1) (pa_cons (pv 2) pa_nil)))) pa_nil))) (pv 2)))))), ?_⟩
  · obtain ⟨a, p, m, rfl, _⟩ := h
    rfl
  obtain ⟨a, p, m, rfl, hp, good, hno, q⟩ := h
  walk_at "go"
  refine ⟨hno, fun hm => ?_⟩
  have q2 := q hm
  obtain ⟨k, rfl, hk1, hk3⟩ : ∃ k : Nat, m = (k : Int) ∧ 1 ≤ k ∧ k ≤ 3 := by
    unfold Vatsld.isMachines at hm
    rw [Bool.and_eq_true] at hm
    have h1 := of_decide_eq_true hm.1
    have h2 : m ≤ (3 : Nat) := of_decide_eq_true hm.2
    exact ⟨m.toNat, by omega, by omega, by omega⟩
  rw [Int.toNat_natCast] at q2
  walk_at "go"
  refine ⟨a, p, k, rfl, hp, good, hk1, hk3, fun b y H1 e1 hy hyc hyl hb => ?_⟩
  dsimp only [gName]
  walk_at "go"
  refine ⟨a, b, p, k, y.order, rfl, hp.same e1, good, SqL.of hb, hyl, by omega, fun H2 e2 => ?_⟩
  walk_at "go"
  refine ⟨of_decide_eq_true rfl, fun u hu => ?_⟩
  generalize hH3 : upd H2 u _ = H3
  obtain ⟨e3, hu3⟩ := new_at hu hH3
  have hj7 := good.j7
  walk_at "go"
  refine ⟨_, _, _, _, rfl, rfl, hu3, e3 _ _ (e2 _ _ hb), ?_, fun b' hb' => ?_⟩
  · rw [vN_length, hyl, sizeLine_eq]
    show 2 + _ ≤ _
    omega
  · generalize hH4 : upd H3 b' _ = H4
    obtain ⟨e4, hb4⟩ := new_at hb' hH4
    refine q2 b' H4 (Same.trans e1 (Same.trans e2 (Same.trans e3 e4))) ?_
    rw [hb4]
    unfold Vatsld.machinesRow
    rw [hy]
    dsimp only
    rw [List.map_cons, List.map_cons, hyc, vN_eq] <;> rfl
def sp_time_told (K : PySem.W.Frag) : Sp := fun vs H Q E => ∃ (a l : Addr) (p : Vatsld.Plan) (m : Int) (ns : List Int), vs = [.ref a, .int m, .ref l] ∧ PlanAt K H a p ∧ Good p ∧ SqL K H l (ns.map V.int) ∧ ns.length ≤ 100000 ∧ (Vatsld.isMachines m = false → RE K E (-7) H) ∧
  (Vatsld.isMachines m = true → (ns.length = p.jobs.length && Vatsld.isRow m.toNat ns) = false → RE K E (-12) H) ∧
  (Vatsld.isMachines m = true → (ns.length = p.jobs.length && Vatsld.isRow m.toNat ns) = true → ∀ b H', Same H H' → H' b = some (.lst [.int 0, .int (Vatsld.timeOf p m.toNat (Vatsld.toNats ns) : Nat)]) → Q (.ref b) H')
theorem cal_time_told (T : Tx K mg) : Cal P w K mg base 5 "time_told" (sp_time_told K) := by
  have c_refuse_where := cal_refuse_where (P := P) (w := w) (base := base) T
  have c_ask_machines := cal_ask_machines (P := P) (w := w) (base := base) T
  have c_is_way := cal_is_way (P := P) (w := w) (base := base) T
  have c_time_of := cal_time_of (P := P) (w := w) (base := base) T
  obtain ⟨fd, F⟩ := T.def_ 63 (d := d_time_told) rfl
  refine cal_of F (g_time_told T) sc_time_told (fun _ _ _ _ _ _ us hl => match us, hl with | [_, _, _], _ => rfl) (fun vs H Q E h => ?_) fun cdv A outer s H vs Q E hr h => ⟨_, (pss_cons (ps_expr (pe_c c_ask_machines hr (by decide) (passes_call (takes_of rfl rfl rfl rfl) fun _ _ _ _ z => z) (pa_cons (pv 1) pa_nil)))
    (pss_cons (ps_expr (pe_c c_refuse_where hr (by decide) (passes_call (takes_of rfl rfl rfl rfl) fun _ _ _ _ z => z) (pa_cons (pe_not (pe_c c_is_way hr (by decide) passL (pa_cons (pv 0) (pa_cons (pv 1) (pa_cons (pv 2) pa_nil))))) (pa_cons (pe_gi (i_NO_LIST T)) pa_nil))))
    (pss_one (ps_ret (pe_lst (pa_cons pe_int (pa_cons (pe_c c_time_of hr (by decide) passL (pa_cons (pv 0) (pa_cons (pv 1) (pa_cons (pv 2) pa_nil)))) pa_nil))))))), ?_⟩
  · obtain ⟨a, l, p, m, ns, rfl, _⟩ := h
    rfl
  obtain ⟨a, l, p, m, ns, rfl, hp, good, hl, hz, hno, hno2, q⟩ := h
  walk_at "go"
  refine ⟨hno, fun hm => ?_⟩
  have q2 := q hm
  have n2 := hno2 hm
  obtain ⟨k, rfl, hk1, hk3⟩ : ∃ k : Nat, m = (k : Int) ∧ 1 ≤ k ∧ k ≤ 3 := by
    unfold Vatsld.isMachines at hm
    rw [Bool.and_eq_true] at hm
    have h1 := of_decide_eq_true hm.1
    have h2 : m ≤ (3 : Nat) := of_decide_eq_true hm.2
    exact ⟨m.toNat, by omega, by omega, by omega⟩
  rw [Int.toNat_natCast] at q2 n2
  walk_at "go"
  refine ⟨a, l, p, k, ns, rfl, hp, hl, hz, fun H1 e1 => ?_⟩
  walk_at "go"
  refine ⟨_, _, rfl, fun h => (n2 (nb1 h)).go e1, fun h => ?_⟩
  have hb : (ns.length = p.jobs.length && Vatsld.isRow k ns) = true := nb2 h
  have q3 := q2 hb
  rw [Bool.and_eq_true, decide_eq_true_iff] at hb
  obtain ⟨hns, hlt⟩ := row_nats hb.2
  have hl1 : SqL K H1 l (vN (Vatsld.toNats ns)) := by
    rw [vN_eq, ← hns]
    exact L2.Same.seq e1 hl
  have hlen : (Vatsld.toNats ns).length = p.jobs.length := by
    rw [← hb.1]
    exact List.length_map ..
  walk_at "go"
  refine ⟨a, l, p, k, _, rfl, hp.same e1, good, hl1, hlen, by omega, fun H2 e2 => ?_⟩
  walk_at "go"
  refine ⟨of_decide_eq_true rfl, fun b hb => ?_⟩
  generalize hH3 : upd H2 b _ = H3
  obtain ⟨e3, hb3⟩ := new_at hb hH3
  exact q3 b H3 (Same.trans e1 (Same.trans e2 e3)) hb3
def sp_budget (K : PySem.W.Frag) : Sp := fun vs H Q E => ∃ (a : Addr) (p : Vatsld.Plan) (m : Int), vs = [.ref a, .int m] ∧ PlanAt K H a p ∧ Good p ∧ ((m < 0 ∨ 100000 < m) → RE K E (-7) H) ∧
  (¬ (m < 0 ∨ 100000 < m) → ∀ b c H', Same H H' → Vatsld.budgetFor p m.toNat = some c → H' b = some (.lst ((0 :: Vatsld.choiceRow c).map V.int)) → Q (.ref b) H')
theorem cal_budget (T : Tx K mg) : Cal P w K mg base 4 "budget" (sp_budget K) := by
  have c_refuse_where := cal_refuse_where (P := P) (w := w) (base := base) T
  have c_best_choice := cal_best_choice (P := P) (w := w) (base := base) T
  have c_Plan_missed := met_missed (P := P) (w := w) (base := base) T
  have c_Plan_cost_of := met_cost_of (P := P) (w := w) (base := base) T
  obtain ⟨fd, F⟩ := T.def_ 64 (d := d_budget) rfl
  refine cal_of F (g_budget T) sc_budget (fun _ _ _ _ _ _ us hl => match us, hl with | [_, _], _ => rfl) (fun vs H Q E h => ?_) fun cdv A outer s H vs Q E hr h => ⟨_, (pss_cons (ps_expr (pe_c c_refuse_where hr (by decide) (passes_call (takes_of rfl rfl rfl rfl) fun _ _ _ _ z => z) (pa_cons (pe_not (pe_chain op_le op_le pe_int (pv 1) (pe_gi (i_MOST_BUDGET T)))) (pa_cons (pe_gi (i_NOT_SO T)) pa_nil))))
    (pss_cons (ps_set (i := 2) sc_budget.nd rfl (Or.inl rfl) (pe_c c_best_choice hr (by decide) passL (pa_cons (pv 0) (pa_cons (pv 1) pa_nil))))
    (pss_one (ps_ret (pe_op op_cat (pe_lst (pa_cons pe_int (pa_cons (pe_mt c_Plan_missed hr (by decide) passL (pv 0) (pa_cons (pv 2) pa_nil)) (pa_cons (pe_mt c_Plan_cost_of hr (by decide) passL (pv 0) (pa_cons (pv 2) pa_nil)) (pa_cons (pe_callB call_len_seq (by rfl) (f_len T) (by decide +kernel) (pa_cons (pv 2) pa_nil)) pa_nil))))) (pv 2)))))), ?_⟩
  · obtain ⟨a, p, m, rfl, _⟩ := h
    rfl
  obtain ⟨a, p, m, rfl, ⟨g, tl, gs, js, hp⟩, good, hno, q⟩ := h
  walk_at "go"
  have tail : ¬ (m < 0 ∨ 100000 < m) → (tSeq (tAsg (tCall (sp_best_choice K) [] E0 (tCons (tVar 0) (tCons (tVar 1) tNil))) (gName 2)) (tRet (tOp rCat (tLst (tCons (tC (V.int 0)) (tCons (tMeth (He.ga K "Plan") "missed" (sp_missed K) [] E0 (tVar 0) (tCons (tVar 2) tNil)) (tCons (tMeth (He.ga K "Plan") "cost_of" (sp_cost_of K) [] E0 (tVar 0) (tCons (tVar 2) tNil)) (tCons (tCB (fun xs H_1 Q => ∃ p ys, xs = [V.ref p] ∧ (SqL K H_1 p ys ∨ SqT K H_1 p ys) ∧ Q (V.int ys.length) H_1) (tCons (tVar 2) tNil)) tNil))))) (tVar 2)))) { nx := fun x H' => Q V.non H', rt := Q } (L2.start N_budget [V.ref a, V.int m]) H := by
    intro hb
    have q2 := q hb
    obtain ⟨k, rfl⟩ : ∃ k : Nat, m = (k : Int) := ⟨m.toNat, by omega⟩
    rw [Int.toNat_natCast] at q2
    obtain ⟨c0, hc0, hch, hcl, hclt⟩ := budget_some p k
    have hj7 := good.j7
    walk_at "go"
    refine ⟨a, p, k, rfl, ⟨g, tl, gs, js, hp⟩, good, fun b y H1 e1 hy hb => ?_⟩
    rw [hc0] at hy
    cases hy
    have hp1 := hp.same e1
    obtain ⟨dp1, hpa1⟩ := hp1.at_
    dsimp only [gName]
    walk_at "go"
    refine ⟨a, b, p, _, rfl, ⟨g, tl, gs, js, hp1⟩, good, SqL.of hb, fun H2 e2 => ?_⟩
    have hp2 := hp1.same e2
    have hpa2 := e2 _ _ hpa1
    have hb2 := e2 _ _ hb
    walk_at "go"
    refine ⟨a, b, p, _, rfl, ⟨g, tl, gs, js, hp2⟩, good, SqL.of hb2, hclt, by omega, fun H3 e3 => ?_⟩
    have hb3 := e3 _ _ hb2
    walk_at "go"
    refine ⟨_, _, rfl, .inl (SqL.of hb3), ?_⟩
    walk_at "go"
    refine ⟨of_decide_eq_true rfl, fun u hu => ?_⟩
    generalize hH4 : upd H3 u _ = H4
    obtain ⟨e4, hu4⟩ := new_at hu hH4
    walk_at "go"
    refine ⟨_, _, _, _, rfl, rfl, hu4, e4 _ _ hb3, ?_, fun b' hb' => ?_⟩
    · rw [vN_length, sizeLine_eq]
      show 4 + _ ≤ _
      omega
    · generalize hH5 : upd H4 b' _ = H5
      obtain ⟨e5, hb5⟩ := new_at hb' hH5
      refine q2 b' c0 H5 (Same.trans e1 (Same.trans e2 (Same.trans e3 (Same.trans e4 e5)))) hc0 ?_
      rw [hb5, vN_length]
      unfold Vatsld.choiceRow
      have h1 : c0.miss = Vatsld.missOf p c0.jobs := congrArg Vatsld.Choice.miss hch
      have h2 : c0.cost = Vatsld.costOf p c0.jobs := congrArg Vatsld.Choice.cost hch
      rw [h1, h2, vN_eq] <;> rfl
  by_cases h0 : 0 ≤ m
  · rw [decide_eq_true h0, if_pos rfl]
    walk_at "go"
    refine ⟨_, _, rfl, fun h => hno ?_, fun h => tail ?_⟩
    · have := of_decide_eq_false (nb1 h)
      omega
    · have := of_decide_eq_true (nb2 h)
      omega
  · rw [decide_eq_false h0, if_neg (by decide)]
    walk_at "go"
    exact ⟨_, _, rfl, fun h => hno (.inl (by omega)), fun h => by cases h⟩
def sp_size (K : PySem.W.Frag) : Sp := fun vs H Q E => ∃ (a : Addr) (p : Vatsld.Plan), vs = [.ref a] ∧ PlanAt K H a p ∧ Good p ∧
  ∀ b H', Same H H' → H' b = some (.lst ((0 :: Vatsld.toInts [p.groups.length, p.jobs.length, Vatsld.missOf p (List.range p.jobs.length)]).map V.int)) → Q (.ref b) H'
theorem cal_size (T : Tx K mg) : Cal P w K mg base 2 "size" (sp_size K) := by
  have c_Plan_missed := met_missed (P := P) (w := w) (base := base) T
  obtain ⟨fd, F⟩ := T.def_ 66 (d := d_size) rfl
  refine cal_of F (g_size T) sc_size (fun _ _ _ _ _ _ us hl => match us, hl with | [_], _ => rfl) (fun vs H Q E h => ?_) fun cdv A outer s H vs Q E hr h => ⟨_, (pss_cons (ps_set (i := 1) sc_size.nd rfl (Or.inl rfl) (pe_listRg rfl rfl (f_list T) (prg_1 rfl (f_range T) (pe_callB call_len_seq (by rfl) (f_len T) (by decide +kernel) (pa_cons (pe_fld (pv 0) rfl) pa_nil)))))
    (pss_one (ps_ret (pe_lst (pa_cons pe_int (pa_cons (pe_callB call_len_seq (by rfl) (f_len T) (by decide +kernel) (pa_cons (pe_fld (pv 0) rfl) pa_nil)) (pa_cons (pe_callB call_len_seq (by rfl) (f_len T) (by decide +kernel) (pa_cons (pe_fld (pv 0) rfl) pa_nil)) (pa_cons (pe_mt c_Plan_missed hr (by decide) passL (pv 0) (pa_cons (pv 1) pa_nil)) pa_nil)))))))), ?_⟩
  · obtain ⟨a, p, rfl, _⟩ := h
    rfl
  obtain ⟨a, p, rfl, ⟨g, tl, gs, js, hp⟩, good, q⟩ := h
  obtain ⟨dp, hpa⟩ := hp.at_
  walk_at "go"
  have hj7 := good.j7
  have hg3 := good.g3
  refine ⟨_, _, rfl, .inl (SqL.of hp.ht), ?_⟩
  refine ⟨_, rfl, ?_⟩
  rw [List.length_map, hp.lenT]
  refine ⟨RgOk.of_le (by omega) (by omega) (by omega) (by omega), fun y hy => ?_⟩
  generalize hH1 : upd H y _ = H1
  obtain ⟨e1, hy1⟩ := new_at hy hH1
  rw [rgV_I] at hy1
  have hp1 := hp.same e1
  have hpa1 := e1 _ _ hpa
  dsimp only [gName]
  walk_at "go"
  refine ⟨_, _, rfl, .inl (SqL.of hp1.hg), ?_⟩
  walk_at "go"
  refine ⟨_, _, rfl, .inl (SqL.of hp1.ht), ?_⟩
  walk_at "go"
  have hl1 : SqL K H1 y (vN (List.range p.jobs.length)) := by
    rw [vN_eq]
    exact SqL.of hy1
  refine ⟨a, y, p, _, rfl, ⟨g, tl, gs, js, hp1⟩, good, hl1, fun H2 e2 => ?_⟩
  walk_at "go"
  refine ⟨of_decide_eq_true rfl, fun b hb => ?_⟩
  generalize hH3 : upd H2 b _ = H3
  obtain ⟨e3, hb3⟩ := new_at hb hH3
  refine q b H3 (Same.trans e1 (Same.trans e2 e3)) ?_
  rw [hb3, List.length_map, List.length_map, hp.lenG, hp.lenT] <;> rfl
end
end
section
local macro_rules | `(tactic| walk_at "v") => `(tactic| refine ⟨_, rfl, ?_⟩)
local macro_rules | `(tactic| walk_at "ii") => `(tactic| refine ⟨_, _, rfl, rfl, ?_⟩)
local macro_rules | `(tactic| walk_at "no") => `(tactic| first | exact n_Plan_groups ‹_› | exact n_Plan_tests ‹_› | exact n_Group_name ‹_› | exact n_Group_cost ‹_› | exact n_Test_name ‹_› | exact n_Test_cost ‹_› | exact n_Test_chance ‹_› | exact n_Test_group ‹_› | exact n_Test_behind ‹_› | exact n_Token_mark ‹_› | exact n_Token_some ‹_› | exact n_Token_place ‹_› | exact n_Reader_text ‹_› | exact n_Reader_at ‹_› | exact n_Reader_seen ‹_› | exact n_Search_plan ‹_› | exact n_Search_known ‹_› | exact n_Desk_plan ‹_›)
local macro_rules | `(tactic| walk_at "cl") => `(tactic| first | exact c_Plan ‹_› | exact c_Test ‹_› | exact c_Group ‹_› | exact c_Token ‹_› | exact c_Reader ‹_› | exact c_Search ‹_› | exact c_Desk ‹_›)
local macro_rules | `(tactic| walk_at "f") => `(tactic| (refine ⟨_, _, _, _, _, rfl, by first | assumption | exact upd_same, ?cl, ?no, rfl, ?_⟩; (case cl => walk_at "cl"); (case no => walk_at "no")))
local macro_rules | `(tactic| walk_at "m") => `(tactic| refine ⟨_, _, _, rfl, by first | assumption | exact upd_same, rfl, ?_⟩)
local macro_rules | `(tactic| walk_at "go") => `(tactic| repeat (first | walk_at "v" | walk_at "ii" | walk_at "f" | walk_at "m"))
local macro_rules | `(tactic| walk_at "s") => `(tactic| (refine ⟨_, _, _, _, rfl, by first | assumption | exact upd_same, ?cl, ?no, of_decide_eq_true rfl, ?_⟩; (case cl => walk_at "cl"); (case no => walk_at "no")))
abbrev N_load : List Str := ["desk", "text", "plan", "fault", "byte"]
theorem sc_load : FnScope N_load ["desk", "text"] (defScope s_load) := C8.fnScope_by (by decide +kernel)
section
variable {P : Program} {w : World} {K : PySem.W.Frag} {mg : Str → Option Value} {base : Heap}
def DeskAt (K : PySem.W.Frag) (H : Hp) (dk a : Addr) : Prop := ∃ dx, H dk = some (.ins (He.ga K "Desk") dx [("plan", .ref a)])
theorem PlanAt.desk {H : Hp} {dk a C dx : Addr} {v : V} {o : HO} {p : Vatsld.Plan} (hdk : H dk = some (.ins C dx [("plan", v)])) (h : PlanAt K H a p) : PlanAt K (upd H dk o) a p := by
  have up : ∀ b u, H b = some u → u ≠ .ins C dx [("plan", v)] → (upd H dk o) b = some u := fun b u hb hu => by
    rw [upd_ne (ne_of hb hdk hu)]
    exact hb
  obtain ⟨g, t, gs, ts, ⟨dp, h1⟩, h2, h3, h4, h5, h6⟩ := h
  refine ⟨g, t, gs, ts, ⟨dp, up _ _ h1 fun z => by cases z⟩, up _ _ h2 (fun z => by cases z), up _ _ h3 (fun z => by cases z), Paired.mapP h4 fun x y z => ?_, Paired.mapP h5 fun x y z => ?_, h6⟩
  · obtain ⟨d1, nm, z1, z2⟩ := z
    exact ⟨d1, nm, up _ _ z1 (fun z => by cases z), up _ _ z2 (fun z => by cases z)⟩
  · obtain ⟨d1, nm, b, z1, z2, z3, z4⟩ := z
    exact ⟨d1, nm, b, up _ _ z1 (fun z => by cases z), up _ _ z2 (fun z => by cases z), up _ _ z3 (fun z => by cases z), z4⟩
def sp_load (K : PySem.W.Frag) : Sp := fun vs H Q E => ∃ (dk l a : Addr) (ns : List Int), vs = [.ref dk, .ref l] ∧ DeskAt K H dk a ∧ H l = some (.lst (ns.map V.int)) ∧ ns.length ≤ 5000 ∧
  (Vatsld.noBytes ns = true → RE K E (-1) H) ∧ (Vatsld.noBytes ns = false → 4096 < ns.length → RE K E (-2) H) ∧
  (Vatsld.noBytes ns = false → ns.length ≤ 4096 → (∀ q k, rPlan (Vatsld.toNats ns) = .error (k, q) → ∀ b H', Same H H' → H' b = some (.lst [.int 1, .int k, .int q]) → Q (.ref b) H') ∧
    ∀ p, rPlan (Vatsld.toNats ns) = .ok p → ∀ b a' H', Keep [dk] H H' → DeskAt K H' dk a' → PlanAt K H' a' p → H' b = some (.lst [.int 0, .int (p.groups.length : Nat), .int (p.jobs.length : Nat)]) → Q (.ref b) H')
theorem cal_load (T : Tx K mg) : Cal P w K mg base 10 "load" (sp_load K) := by
  have c_refuse_where := cal_refuse_where (P := P) (w := w) (base := base) T
  have c_read_plan := cal_read_plan (P := P) (w := w) (base := base) T
  obtain ⟨fd, F⟩ := T.def_ 58 (d := d_load) rfl
  refine cal_of F (g_load T) sc_load (fun _ _ _ _ _ _ us hl => match us, hl with | [_, _], _ => rfl) (fun vs H Q E h => ?_) fun cdv A outer s H vs Q E hr h => ⟨_, (pss_cons (ps_expr (pe_c c_refuse_where hr (by decide) (passes_call (takes_of rfl rfl rfl rfl) fun _ _ _ _ z => z) (by exact (pa_cons (pe_cmpR (op_neD hr.units) (pe_lc (own := [("byte", 4)]) rfl sc_load.nd (pi_list (pv 1)) (blkOk_by (own := [("byte", 4)]) (N := N_load) (sc := defScope s_load) (by decide +kernel)) (fun _ _ _ _ _ => by exact (pg_name (i := 4) sc_load.nd rfl (Or.inl rfl))) (fun _ _ _ _ _ => by exact (pts_one (pt_not (pt_chain op_le op_le pe_int (pv 4) pe_int)))) (fun _ _ _ _ _ => by exact (pv 4))) (pe_lst pa_nil) (nomark _)) (pa_cons (pe_gi (i_NO_BYTES T)) pa_nil)))))
    (pss_cons (ps_expr (pe_c c_refuse_where hr (by decide) (passes_call (takes_of rfl rfl rfl rfl) fun _ _ _ _ z => z) (pa_cons (pe_cmpR op_gt (pe_callB call_len_seq (by rfl) (f_len T) (by decide +kernel) (pa_cons (pv 1) pa_nil)) (pe_gi (i_MOST_BYTES T)) (nomark _)) (pa_cons (pe_gi (i_TOO_LONG T)) pa_nil))))
    (pss_cons (ps_try_as (i := 3) rfl rfl sc_load.nd rfl rfl ⟨rfl, by decide, Or.inl (g_Fault T)⟩ (takes_of rfl rfl rfl rfl)
      (fun W pn xe tk _ => (pss_one (ps_set (i := 2) sc_load.nd rfl (Or.inl rfl) (pe_cS c_read_plan hr (by decide) (fun σ => passAt tk σ) (pa_cons (pv 1) pa_nil)))))
      (fun a oe cls d pn hz hf => (pss_one (ps_ret (pe_lst (pa_cons pe_int (pa_cons (pe_xf (o_Fault T).2.2.2 (n_Fault_kind T) hz hf (pv 3)) (pa_cons (pe_xf (o_Fault T).2.2.2 (n_Fault_place T) hz hf (pv 3)) pa_nil))))))))
    (pss_cons (ps_fld (pv 0) (pv 2) rfl)
    (pss_one (ps_ret (pe_lst (pa_cons pe_int (pa_cons (pe_callB call_len_seq (by rfl) (f_len T) (by decide +kernel) (pa_cons (pe_fld (pv 2) rfl) pa_nil)) (pa_cons (pe_callB call_len_seq (by rfl) (f_len T) (by decide +kernel) (pa_cons (pe_fld (pv 2) rfl) pa_nil)) pa_nil)))))))))), ?_⟩
  · obtain ⟨dk, l, a, ns, rfl, _⟩ := h
    rfl
  obtain ⟨dk, l, a, ns, rfl, ⟨dx, hdk⟩, hl, hz, hn1, hn2, q⟩ := h
  walk_at "go"
  refine ⟨⟨_, SqL.of hl⟩, fun D hD => lcS_list (xs := ns.map V.int) (fun k => ((ns.take k).filter fun n => !(decide (0 ≤ n) && decide (n ≤ 255))).map V.int) hD rfl (SqL.of hl) ?_ ?_⟩
  · intro k y H1 hy ac
    obtain ⟨i, hi, rfl⟩ := of_vI hy
    refine ⟨rfl, ?_⟩
    walk_at "go"
    have hkl : k < ns.length := (List.getElem?_eq_some_iff.mp hi).1
    have add : (!(decide (0 ≤ i) && decide (i ≤ 255))) = true → AddTo H D ((((ns.take (k + 1)).filter fun n => !(decide (0 ≤ n) && decide (n ≤ 255)))).map V.int) (.int i) H1 := fun hc => by
      refine AddTo.of hD ac (Same.refl _) (by rw [take_more hi, List.filter_append, List.filter_cons_of_pos (p := fun n : Int => !(decide (0 ≤ n) && decide (n ≤ 255))) hc, List.map_append] <;> rfl) ?_
      have z := List.length_filter_le (fun n => !(decide (0 ≤ n) && decide (n ≤ 255))) (ns.take k)
      rw [List.length_take] at z
      rw [List.length_map, sizeLine_eq]
      omega
    by_cases h0 : 0 ≤ i
    · by_cases h1 : i ≤ 255
      · have hc : ¬ (!(decide (0 ≤ i) && decide (i ≤ 255))) = true := by rw [decide_eq_true h0, decide_eq_true h1]; decide
        rw [decide_eq_true h0, if_pos rfl]
        walk_at "go"
        rw [decide_eq_true h1]
        show Acc H D _ H1
        rw [take_more hi, List.filter_append, List.filter_cons_of_neg (p := fun n : Int => !(decide (0 ≤ n) && decide (n ≤ 255))) hc, List.filter_nil, List.append_nil]
        exact ac
      · have z := add (by rw [decide_eq_true h0, decide_eq_false h1]; rfl)
        rw [decide_eq_true h0, if_pos rfl]
        walk_at "go"
        rw [decide_eq_false h1]
        exact ⟨_, rfl, z⟩
    · have z := add (by rw [decide_eq_false h0]; rfl)
      rw [decide_eq_false h0, if_neg (by decide)]
      walk_at "go"
      exact z
  · intro H1 ac
    rw [List.length_map, List.take_length] at ac
    walk_at "go"
    refine ⟨Nat.zero_le _, fun p2 hnp => ?_⟩
    generalize hH2 : upd H1 p2 _ = H2
    obtain ⟨e2, hp2⟩ := new_at hnp hH2
    refine ⟨_, _, .lst (SqL.of (e2 _ _ ac.2)) (dp_I _), .lst (SqL.of hp2) (dp_I []), shL_I _, shL_I _, ?_⟩
    rw [eqL_I]
    walk_at "go"
    have eb : (!decide (ns.filter (fun n => !(decide (0 ≤ n) && decide (n ≤ 255))) = [])) = Vatsld.noBytes ns := by
      unfold Vatsld.noBytes
      rw [Bool.eq_iff_iff, List.any_eq_true, Bool.not_eq_true', decide_eq_false_iff_not, List.filter_eq_nil_iff]
      constructor
      · intro h
        simp only [Classical.not_forall] at h
        obtain ⟨x, hx, h⟩ := h
        refine ⟨x, hx, ?_⟩
        rw [Bool.or_eq_true, decide_eq_true_iff, decide_eq_true_iff]
        simp at h
        by_cases h0 : x < 0
        · exact .inl h0
        · exact .inr (h (by omega))
      · rintro ⟨x, hx, h⟩ h2
        rw [Bool.or_eq_true, decide_eq_true_iff, decide_eq_true_iff] at h
        have z := h2 x hx
        simp at z
        omega
    rw [eb]
    have e02 : Same H H2 := Same.trans ac.1 e2
    refine ⟨_, _, rfl, fun h => (hn1 h).go e02, fun h => ?_⟩
    have hn2' := hn2 h
    have q' := q h
    walk_at "go"
    refine ⟨_, _, rfl, .inl (SqL.of (e02 _ _ hl)), ?_⟩
    walk_at "go"
    rw [List.length_map]
    refine ⟨_, _, rfl, fun h2 => (hn2' (by have := of_decide_eq_true h2; omega)).go e02, fun h2 => ?_⟩
    have hle : ns.length ≤ 4096 := by have := of_decide_eq_false h2; omega
    obtain ⟨qe, qo⟩ := q' hle
    have hl2 : H2 l = some (.lst (vN (Vatsld.toNats ns))) := by
      have hns : ns = (Vatsld.toNats ns).map fun n : Nat => (n : Int) := by
        refine (row_nats (n := 256) ?_).1
        unfold Vatsld.isRow
        unfold Vatsld.noBytes at h
        rw [List.all_eq_true]
        rw [List.any_eq_false] at h
        intro x hx
        have z := h x hx
        simp at z
        simp
        omega
      rw [vN_eq, ← hns]
      exact e02 _ _ hl
    have htl : (Vatsld.toNats ns).length = ns.length := List.length_map ..
    walk_at "go"
    refine ⟨l, Vatsld.toNats ns, rfl, hl2, by omega, fun pl k hk d H3 k3 hd => ⟨true, x_Fault T, fun _ x hx => ?_, fun z => by cases z⟩, fun p a' H3 hok e3 hp3 => ?_⟩
    · walk_at "go"
      refine ⟨rfl, rfl, d, _, _, rfl, hd, rfl, ?_⟩
      walk_at "go"
      refine ⟨rfl, rfl, d, _, _, rfl, hd, rfl, ?_⟩
      walk_at "go"
      refine ⟨of_decide_eq_true rfl, fun b hb => ?_⟩
      generalize hH4 : upd H3 b _ = H4
      obtain ⟨e4, hb4⟩ := new_at hb hH4
      exact qe pl k hk b H4 (Same.trans e02 (Same.trans (Same.of k3) e4)) hb4
    · have hdk3 := e3 _ _ (e02 _ _ hdk)
      dsimp only [gName]
      walk_at "go"
      walk_at "s"
      generalize hH4 : upd H3 dk _ = H4
      have hp4 : PlanAt K H4 a' p := by
        subst hH4
        exact hp3.desk hdk3
      have k4 : Keep [dk] H H4 := by
        subst hH4
        exact Keep.upd (Keep.of (Same.trans e02 e3)) (.inl (by simp))
      have hdk4 : H4 dk = some (.ins (He.ga K "Desk") dx [("plan", .ref a')]) := by
        subst hH4
        exact upd_same
      obtain ⟨g, tl, gs, js, hpl⟩ := hp4
      obtain ⟨dp, hpa⟩ := hpl.at_
      walk_at "go"
      refine ⟨_, _, rfl, .inl (SqL.of hpl.hg), ?_⟩
      walk_at "go"
      refine ⟨_, _, rfl, .inl (SqL.of hpl.ht), ?_⟩
      walk_at "go"
      refine ⟨of_decide_eq_true rfl, fun b hb => ?_⟩
      generalize hH5 : upd H4 b _ = H5
      obtain ⟨e5, hb5⟩ := new_at hb hH5
      refine qo p hok b a' H5 (Keep.trans k4 (Keep.of e5)) ⟨dx, e5 _ _ hdk4⟩ ⟨g, tl, gs, js, hpl.same e5⟩ ?_
      rw [hb5, List.length_map, List.length_map, hpl.lenG, hpl.lenT]
end
end
section
/-- a list object whose ints have tokens other than 0 -/
def TokL (o : Obj) : Prop := ∃ (its : Array Value) (n : Nat), o.data = .seq its n ∧ ∀ v ∈ its.toList, ∀ i t, v = Value.int i t → t ≠ 0
/-- the distinct ones, in the order in which they're met -/
def ddp (ns : List Int) : List Int := ns.foldl step_dedup []
theorem firstMet_ddp (ns : List Int) : firstMet (fun i => ns.getD i 0) ns.length = ddp ns := by
  unfold firstMet ddp
  congr 1
  apply List.ext_getElem?
  intro i
  rw [List.getElem?_map]
  by_cases h : i < ns.length
  · rw [List.getElem?_range h, List.getElem?_eq_getElem h]
    show some (ns.getD i 0) = _
    rw [List.getD_eq_getElem?_getD, List.getElem?_eq_getElem h] <;> rfl
  · rw [List.getElem?_eq_none (by rw [List.length_range]; omega), List.getElem?_eq_none (by omega)] <;> rfl
section
variable {X : Cx} {pins : List (Addr × Obj)} {σ : L2.St} {H : Hp} {s : Shared}
/-- what a list that is known is -/
theorem frz_list {a : Addr} {o : Obj} {xs : List V} (I : Inv X pins σ H s) (h : H a = some (.frz o (.lst xs))) : ∃ its : List Value, ∃ n : Nat, Vals xs its ∧ s.heap.get? a = some o ∧ o = { cls := .type "list", data := .seq its.toArray n } ∧ xs.length ≤ sizeLine := by
  obtain ⟨e1, e2, its, n, e3, e4⟩ := I.hok a _ h
  rw [e1] at e4
  exact ⟨its, n, e3, e1, Option.some.inj e4, e2⟩
theorem tok_items {a : Addr} {o : Obj} {ns : List Int} (I : Inv X pins σ H s) (h : H a = some (.frz o (.lst (ns.map V.int)))) (ht : TokL o) :
    ∃ items : Array Value, s.heap.IsList a items ∧ items.size = ns.length ∧ ∀ (i : Nat) (v : Value), items[i]? = some v → ∃ t, t ≠ 0 ∧ v = .int (ns.getD i 0) t := by
  obtain ⟨its, n, r, e1, e2, _⟩ := frz_list I h
  obtain ⟨its2, n2, d1, d2⟩ := ht
  rw [e2] at d1
  have d1 : Data.seq its.toArray n = Data.seq its2 n2 := d1
  injection d1 with d1 _
  subst d1
  have hl := r.length
  rw [List.length_map] at hl
  refine ⟨its.toArray, ⟨o, e1, by rw [e2], n, by rw [e2]⟩, by rw [List.size_toArray, hl], fun i v hv => ?_⟩
  have hv2 : its[i]? = some v := by simpa using hv
  have hi : i < ns.length := by
    have := (List.getElem?_eq_some_iff.mp hv2).1
    omega
  obtain ⟨u, hu, t, hut⟩ := r.get (i := i) (x := V.int ns[i]) (by rw [List.getElem?_map, List.getElem?_eq_getElem hi] <;> rfl)
  rw [hv2] at hu
  cases hu
  refine ⟨t, d2 v (List.mem_of_getElem? (by simpa using hv2)) _ _ hut, ?_⟩
  rw [hut, List.getD_eq_getElem?_getD, List.getElem?_eq_getElem hi] <;> rfl
/-- len(set(xs)), up to 8000 ints: how many distinct ones, or these are 4096 and more -/
def tLenSetT (ta : TE) : TE := fun σ H Q => ta σ H fun x H1 => ∃ (l : Addr) (o : Obj) (ns : List Int), x = V.ref l ∧ H1 l = some (.frz o (.lst (ns.map V.int))) ∧ TokL o ∧ ns.length ≤ 8000 ∧ ∀ m : Nat, (m = (ddp ns).length ∨ 4096 ≤ (ddp ns).length) → Q (.int m) H1
theorem pe_lenSetT {a : Expr} {ta : TE} {p p2 q pos : Pos} (hc : X.calm = true) (hg : Gl X "len") (hm : X.mg "len" = none) (hg2 : Gl X "set") (hm2 : X.mg "set" = none) (ha : PE X a ta)
    (na : starEach [a] X.env = (false, eval a X.env) :: starEach [] X.env := by rfl) : PE X (.Call (.Name "len" p) [.Call (.Name "set" p2) [a] [] q] [] pos) (tLenSetT ta) := by
  refine ⟨fun pins s σ H Q I h => ?_⟩
  refine Call_ (ld_blt I hg hm PySem.boot_len ?_)
  refine PyProof.Rows.callWith_builtin1 (PyProof.Rows.args_cons ?_ rfl) rfl rfl
  refine Call_ (ld_blt I hg2 hm2 PyProof.Rows.boot_set ?_)
  refine PyProof.Rows.callWith_type1 (PyProof.Rows.args_cons (thn (ha.run pins s σ H _ I h) fun v s1 ⟨x, H1, I1, r1, q1⟩ => PyProof.Rows.args_nil ?_) na) na rfl
  obtain ⟨l, o, ns, rfl, hq, ht, hz, q1⟩ := q1
  cases r1
  obtain ⟨items, hl, hs, hi⟩ := tok_items I1 hq ht
  refine set_of_list (I1.ok.hd hc) hl hi (by omega) fun h' tk hS hk => ?_
  rw [hs, firstMet_ddp] at hS
  refine PyProof.Rows.args_nil ?_
  obtain ⟨so, es, ep, t, ho, hex, hd, _, hT, hN, hM⟩ := hS
  have I2 : Inv X pins σ H1 { s1 with heap := h', toks := tk } := I1.kept fun b o e => hk b o (Heap.lt_size e) e
  refine call_len_set ho hex hd hT.fits (by omega) ⟨.int es.size, H1, I2.tok _, ⟨_, rfl⟩, q1 _ ?_⟩
  rcases hM with ⟨_, e, _⟩ | ⟨_, e⟩
  · exact .inl e
  · exact .inr e
/-- the list that the row is given: tracked, or one of the head's own objects -/
def ArgL (K : PySem.W.Frag) (H : Hp) (a : Addr) (xs : List V) : Prop := ∃ o : Obj, TokL o ∧ (H a = some (.frz o (.lst xs)) ∨
  ∃ (its : Array Value) (n : Nat), K.lookup a = some o ∧ o.cls = .type "list" ∧ o.dict = none ∧ o.data = .seq its n ∧ its.size ≤ sizeLine ∧ Vals xs its.toList)
theorem ArgL.sq {K : PySem.W.Frag} {H : Hp} {a : Addr} {xs : List V} (h : ArgL K H a xs) : SqL K H a xs := by
  obtain ⟨o, _, h | ⟨its, n, h⟩⟩ := h
  · exact .inl (.inr ⟨o, h⟩)
  · exact .inr ⟨o, its, n, h⟩
theorem ArgL.keep {K : PySem.W.Frag} {H H' : Hp} {a : Addr} {xs : List V} (h : ArgL K H a xs) (k : ∀ u, H a = some u → (∀ ys, u ≠ .lst ys) → (∀ C dx fs, u ≠ .ins C dx fs) → H' a = some u) : ArgL K H' a xs := by
  obtain ⟨o, ht, h | h⟩ := h
  · exact ⟨o, ht, .inl (k _ h (fun _ z => by cases z) fun _ _ _ z => by cases z)⟩
  · exact ⟨o, ht, .inr h⟩
/-- a slice of such a list is such a list -/
def rSlF (K : PySem.W.Frag) : V → Option Int → Option Int → Hp → VK → Prop := fun x lo hi H Q => ∃ (a : Addr) (xs : List V), x = .ref a ∧ ArgL K H a xs ∧ ∀ p o', H p = none → TokL o' → Q (.ref p) (upd H p (.frz o' (.lst (cutV xs lo hi))))
theorem sl_frz {K : PySem.W.Frag} (hK : X.K = K) : SlR X (rSlF K) := by
  subst hK
  intro pins s σ H x v vl vu lo hi sl Q I rx hs pl pu h
  obtain ⟨a, xs, rfl, hx, q⟩ := h
  have hsq := hx.sq
  obtain ⟨o, ht, hx⟩ := hx
  cases rx
  obtain ⟨its, r, ⟨ob, n, e1, ec, ed, e2⟩, hz⟩ := I.list hsq
  have eo : ob = o := by
    rcases hx with hx | ⟨_, _, hk, _⟩
    · have := (I.hok a _ hx).1
      rw [e1] at this
      exact Option.some.inj this
    · have := I.kIn a _ hk
      rw [e1] at this
      exact Option.some.inj this
  subst eo
  obtain ⟨its2, n2, d1, d2⟩ := ht
  rw [e2] at d1
  have d1 : Data.seq its.toArray n = Data.seq its2 n2 := d1
  injection d1 with d1 _
  subst d1
  have hlen := r.length
  have hl : s.heap.IsList a its.toArray := ⟨ob, e1, ec, n, e2⟩
  refine ⟨"list", _, slot_list_getitem.lookup, hl.typeIs, ?_⟩
  refine wpAny_getItem_list_slice hl hs pl pu .none (by simp) ?_ (by rw [List.size_toArray] <;> omega)
  rw [slicePick_cut, ← hlen]
  refine ⟨.ref s.heap.objs.size, _, I.laid (t' := s.toks) (o := .frz { cls := .type "list", data := .seq ((its.drop (HT.sIx xs.length 0 lo)).take (HT.sIx xs.length xs.length hi - HT.sIx xs.length 0 lo)).toArray 0 } (.lst (cutV xs lo hi))) (fun b ob q => Heap.get?_push_of_some _ q) (Nat.le_refl _) ?_, rfl, q _ _ (I.hok.fresh (Nat.le_refl _)) ⟨_, 0, rfl, fun v hv => ?_⟩⟩
  · exact ⟨Heap.get?_push_size _ rfl, Nat.le_trans (cutV_length xs lo hi) hz, _, 0, (r.drop (HT.sIx xs.length 0 lo)).take (HT.sIx xs.length xs.length hi - HT.sIx xs.length 0 lo), Heap.get?_push_size _ rfl⟩
  · have hv : v ∈ (its.drop (HT.sIx xs.length 0 lo)).take (HT.sIx xs.length xs.length hi - HT.sIx xs.length 0 lo) := by simpa using hv
    exact d2 v (by simpa using List.mem_of_mem_drop (List.mem_of_mem_take hv))
end
end
section
local macro_rules | `(tactic| walk_at "v") => `(tactic| refine ⟨_, rfl, ?_⟩)
local macro_rules | `(tactic| walk_at "ii") => `(tactic| refine ⟨_, _, rfl, rfl, ?_⟩)
local macro_rules | `(tactic| walk_at "no") => `(tactic| first | exact n_Plan_groups ‹_› | exact n_Plan_tests ‹_› | exact n_Group_name ‹_› | exact n_Group_cost ‹_› | exact n_Test_name ‹_› | exact n_Test_cost ‹_› | exact n_Test_chance ‹_› | exact n_Test_group ‹_› | exact n_Test_behind ‹_› | exact n_Token_mark ‹_› | exact n_Token_some ‹_› | exact n_Token_place ‹_› | exact n_Reader_text ‹_› | exact n_Reader_at ‹_› | exact n_Reader_seen ‹_› | exact n_Search_plan ‹_› | exact n_Search_known ‹_› | exact n_Desk_plan ‹_›)
local macro_rules | `(tactic| walk_at "cl") => `(tactic| first | exact c_Plan ‹_› | exact c_Test ‹_› | exact c_Group ‹_› | exact c_Token ‹_› | exact c_Reader ‹_› | exact c_Search ‹_› | exact c_Desk ‹_›)
local macro_rules | `(tactic| walk_at "f") => `(tactic| (refine ⟨_, _, _, _, _, rfl, by first | assumption | exact upd_same, ?cl, ?no, rfl, ?_⟩; (case cl => walk_at "cl"); (case no => walk_at "no")))
local macro_rules | `(tactic| walk_at "m") => `(tactic| refine ⟨_, _, _, rfl, by first | assumption | exact upd_same, rfl, ?_⟩)
local macro_rules | `(tactic| walk_at "go") => `(tactic| repeat (first | walk_at "v" | walk_at "ii" | walk_at "f" | walk_at "m"))
local macro_rules | `(tactic| walk_at "s") => `(tactic| (refine ⟨_, _, _, _, rfl, by first | assumption | exact upd_same, ?cl, ?no, of_decide_eq_true rfl, ?_⟩; (case cl => walk_at "cl"); (case no => walk_at "no")))
abbrev N_is_choice : List Str := ["plan", "numbers", "number"]
theorem sc_is_choice : FnScope N_is_choice ["plan", "numbers"] (defScope s_is_choice) := C8.fnScope_by (by decide +kernel)
abbrev N_choice : List Str := ["plan", "numbers"]
theorem sc_choice : FnScope N_choice ["plan", "numbers"] (defScope s_choice) := C8.fnScope_by (by decide +kernel)
theorem dedup_fold : ∀ (l acc : List Int), acc.Nodup → (l.foldl PyProof.Rows.step_dedup acc).Nodup ∧ (∀ x ∈ l.foldl PyProof.Rows.step_dedup acc, x ∈ acc ∨ x ∈ l) ∧ (l.foldl PyProof.Rows.step_dedup acc).length ≤ acc.length + l.length ∧
    ((l.foldl PyProof.Rows.step_dedup acc).length = acc.length + l.length ↔ (acc ++ l).Nodup)
  | [], acc, h => ⟨h, fun x hx => .inl hx, Nat.le_refl _, by simpa using h⟩
  | x :: l, acc, h => by
    rw [List.foldl_cons]
    by_cases hx : acc.any (· == x) = true
    · have e : PyProof.Rows.step_dedup acc x = acc := by
        unfold PyProof.Rows.step_dedup
        rw [if_pos hx]
      have hmem : x ∈ acc := by
        obtain ⟨y, hy, e⟩ := List.any_eq_true.mp hx
        rw [← eq_of_beq e]
        exact hy
      rw [e]
      obtain ⟨a, b, c, d⟩ := dedup_fold l acc h
      refine ⟨a, fun y hy => (b y hy).imp id (List.mem_cons_of_mem _), by rw [List.length_cons]; omega, ⟨fun z => ?_, fun z => ?_⟩⟩
      · rw [List.length_cons] at z
        omega
      · exfalso
        exact (List.nodup_append.mp z).2.2 x hmem x (List.mem_cons_self ..) rfl
    · have e : PyProof.Rows.step_dedup acc x = acc ++ [x] := by
        unfold PyProof.Rows.step_dedup
        rw [if_neg hx]
      have hmem : x ∉ acc := fun z => hx (List.any_eq_true.mpr ⟨x, z, by simp⟩)
      rw [e]
      have hn : (acc ++ [x]).Nodup := List.nodup_append.mpr ⟨h, by simp, fun a ha b hb => by
        rw [List.mem_singleton] at hb
        subst hb
        exact fun z => hmem (z ▸ ha)⟩
      obtain ⟨a, b, c, d⟩ := dedup_fold l (acc ++ [x]) hn
      rw [List.length_append, List.length_singleton] at c d
      rw [List.append_assoc] at d
      refine ⟨a, fun y hy => ?_, by rw [List.length_cons]; omega, ?_⟩
      · rcases b y hy with hy | hy
        · rcases List.mem_append.mp hy with hy | hy
          · exact .inl hy
          · rw [List.mem_singleton] at hy
            rw [hy]
            exact .inr (List.mem_cons_self ..)
        · exact .inr (List.mem_cons_of_mem _ hy)
      · rw [List.length_cons, show acc.length + (l.length + 1) = acc.length + 1 + l.length by omega]
        exact d
theorem unlike_iff : ∀ ns : List Int, Vatsld.unlike ns = true ↔ ns.Nodup
  | [] => by simp [Vatsld.unlike]
  | x :: ns => by
    show (!ns.contains x && Vatsld.unlike ns) = true ↔ _
    rw [Bool.and_eq_true, unlike_iff ns, List.nodup_cons]
    constructor
    · rintro ⟨a, b⟩
      refine ⟨fun z => ?_, b⟩
      rw [List.contains_iff_mem.mpr z] at a
      cases a
    · rintro ⟨a, b⟩
      refine ⟨?_, b⟩
      cases hc : ns.contains x with
      | false => rfl
      | true => exact absurd (List.contains_iff_mem.mp hc) a
theorem ddp_unlike (ns : List Int) : decide ((ddp ns).length < ns.length) = !Vatsld.unlike ns := by
  obtain ⟨_, _, c, d⟩ := dedup_fold ns [] List.nodup_nil
  have e : Vatsld.unlike ns = decide (ns.Nodup) := by
    rw [Bool.eq_iff_iff, decide_eq_true_iff]
    exact unlike_iff ns
  rw [e]
  unfold ddp
  simp only [List.length_nil, Nat.zero_add, List.nil_append] at c d
  by_cases h : ns.Nodup
  · rw [decide_eq_true h, decide_eq_false (by have := d.mpr h; omega)] <;> rfl
  · rw [decide_eq_false h, decide_eq_true (by
      have : ¬ (ns.foldl PyProof.Rows.step_dedup []).length = ns.length := fun z => h (d.mp z)
      omega)] <;> rfl
theorem ddp_row {N : Nat} {ns : List Int} (h : Vatsld.isRow N ns = true) : (ddp ns).length ≤ N := by
  obtain ⟨a, b, _, _⟩ := dedup_fold ns [] List.nodup_nil
  have sub : ddp ns ⊆ rangeI N := fun x hx => by
    rcases b x hx with z | z
    · cases z
    · unfold Vatsld.isRow at h
      rw [List.all_eq_true] at h
      have h := h x z
      rw [Bool.and_eq_true, decide_eq_true_iff, decide_eq_true_iff] at h
      exact List.mem_map.mpr ⟨x.toNat, List.mem_range.mpr (by omega), by omega⟩
  have z := List.Nodup.length_le_of_subset a sub
  unfold rangeI at z
  rw [List.length_map, List.length_range] at z
  exact z
section
variable {P : Program} {w : World} {K : PySem.W.Frag} {mg : Str → Option Value} {base : Heap}
theorem SqL.frz {H : Hp} {l : Addr} {o : Obj} {xs : List V} (h : H l = some (.frz o (.lst xs))) : SqL K H l xs := .inl (.inr ⟨o, h⟩)
def sp_is_choice (K : PySem.W.Frag) : Sp := fun vs H Q _ => ∃ (a l : Addr) (p : Vatsld.Plan) (o : Obj) (ns : List Int), vs = [.ref a, .ref l] ∧ PlanAt K H a p ∧ Good p ∧ H l = some (.frz o (.lst (ns.map V.int))) ∧ TokL o ∧ ns.length ≤ 8000 ∧
  ∀ H', Same H H' → Q (.bl (Vatsld.isRow p.jobs.length ns && Vatsld.unlike ns)) H'
theorem cal_is_choice (T : Tx K mg) : Cal P w K mg base 1 "is_choice" (sp_is_choice K) := by
  obtain ⟨fd, F⟩ := T.def_ 4 (d := d_is_choice) rfl
  refine cal_of F (g_is_choice T) sc_is_choice (fun _ _ _ _ _ _ us hl => match us, hl with | [_, _], _ => rfl) (fun vs H Q E h => ?_) fun cdv A outer s H vs Q E hr h => ⟨_, (pss_cons (ps_if (pt_cmpR op_lt (pe_lenSetT rfl rfl (f_len T) rfl (f_set T) (pv 1)) (pe_callB call_len_seq (by rfl) (f_len T) (by decide +kernel) (pa_cons (pv 1) pa_nil)) (nomark _)) (pss_one (ps_ret pe_bl)) pss_nil)
    (pss_one (ps_ret (pe_callB (cr_all rfl) (by rfl) (f_all T) (by decide +kernel) (by exact (pa_cons (pe_lc (own := [("number", 2)]) rfl sc_is_choice.nd (pi_list (pv 1)) (blkOk_by (own := [("number", 2)]) (N := N_is_choice) (sc := defScope s_is_choice) (by decide +kernel)) (fun _ _ _ _ _ => by exact (pg_name (i := 2) sc_is_choice.nd rfl (Or.inl rfl))) (fun _ _ _ _ _ => by exact pts_nil) (fun _ _ _ _ _ => by exact (pe_chain op_le op_lt pe_int (pv 2) (pe_callB (call_len_seqK (K := K) rfl) (by rfl) (f_len T) (by decide +kernel) (pa_cons (pe_fldK (K := K) rfl (pv 0) rfl) pa_nil))))) pa_nil)))))), ?_⟩
  · obtain ⟨a, l, p, o, ns, rfl, _⟩ := h
    rfl
  obtain ⟨a, l, p, o, ns, rfl, ⟨g, tl, gs, js, hp⟩, good, hl, ht, hz, q⟩ := h
  obtain ⟨dp, hpa⟩ := hp.at_
  have hj7 := good.j7
  have hls := SqL.frz (K := K) hl
  walk_at "go"
  refine ⟨l, o, ns, rfl, hl, ht, hz, fun m hm => ?_⟩
  walk_at "go"
  refine ⟨_, _, rfl, .inl hls, ?_⟩
  walk_at "go"
  rw [List.length_map, show decide (((m : Nat) : Int) < ((ns.length : Nat) : Int)) = decide (m < ns.length) from decide_eq_decide.mpr (by omega)]
  by_cases hlt : m < ns.length
  · rw [decide_eq_true hlt]
    walk_at "go"
    have hf : (Vatsld.isRow p.jobs.length ns && Vatsld.unlike ns) = false := by
      rcases hm with rfl | hm
      · have z := ddp_unlike ns
        rw [decide_eq_true hlt] at z
        have z2 : Vatsld.unlike ns = false := nb1 z.symm
        rw [z2, Bool.and_false]
      · cases hr : Vatsld.isRow p.jobs.length ns with
        | false => rfl
        | true =>
          have := ddp_row hr
          omega
    have z := q H (Same.refl _)
    rw [hf] at z
    exact z
  · rw [decide_eq_false hlt]
    have hf : (Vatsld.isRow p.jobs.length ns && Vatsld.unlike ns) = Vatsld.isRow p.jobs.length ns := by
      cases hr : Vatsld.isRow p.jobs.length ns with
      | false => rfl
      | true =>
        rcases hm with rfl | hm
        · have z := ddp_unlike ns
          rw [decide_eq_false hlt] at z
          have z2 : Vatsld.unlike ns = true := nb2 z.symm
          rw [z2] <;> rfl
        · have := ddp_row hr
          omega
    rw [hf] at q
    walk_at "go"
    refine ⟨⟨_, hls⟩, fun D hD => lcS_list (xs := ns.map V.int) (fun k => ((ns.take k).map fun i => decide (0 ≤ i) && decide (i < ((p.jobs.length : Nat) : Int))).map V.bl) hD rfl hls ?_ ?_⟩
    · intro k y H1 hy ac
      obtain ⟨i, hi, rfl⟩ := of_vI hy
      have hp1 := hp.same ac.1
      have hpa1 := ac.1 _ _ hpa
      refine ⟨rfl, ?_⟩
      dsimp only [tYes]
      rw [if_pos rfl]
      walk_at "go"
      have hkl : k < ns.length := (List.getElem?_eq_some_iff.mp hi).1
      have key : ∀ b, b = (decide (0 ≤ i) && decide (i < ((p.jobs.length : Nat) : Int))) → AddTo H D (((ns.take (k + 1)).map fun i => decide (0 ≤ i) && decide (i < ((p.jobs.length : Nat) : Int))).map V.bl) (.bl b) H1 := by
        rintro b rfl
        refine AddTo.of hD ac (Same.refl _) (by rw [take_more hi, List.map_append, List.map_append] <;> rfl) ?_
        rw [List.length_map, List.length_map, List.length_take, sizeLine_eq]
        omega
      by_cases h0 : 0 ≤ i
      · rw [decide_eq_true h0, if_pos rfl]
        walk_at "go"
        refine ⟨_, _, rfl, .inl (SqL.of hp1.ht), ?_⟩
        walk_at "go"
        rw [List.length_map, hp1.lenT]
        exact key _ (by rw [decide_eq_true h0, Bool.true_and])
      · rw [decide_eq_false h0, if_neg (by decide)]
        exact key _ (by rw [decide_eq_false h0, Bool.false_and])
    · intro H1 ac
      rw [List.length_map, List.take_length] at ac
      refine ⟨D, _, rfl, SqL.of ac.2, ?_⟩
      have z := q H1 ac.1
      unfold Vatsld.isRow at z
      rw [List.all_map]
      exact z
def sp_choice (K : PySem.W.Frag) : Sp := fun vs H Q E => ∃ (a l : Addr) (p : Vatsld.Plan) (o : Obj) (ns : List Int), vs = [.ref a, .ref l] ∧ PlanAt K H a p ∧ Good p ∧ H l = some (.frz o (.lst (ns.map V.int))) ∧ TokL o ∧ ns.length ≤ 8000 ∧
  ((Vatsld.isRow p.jobs.length ns && Vatsld.unlike ns) = false → RE K E (-12) H) ∧
  ((Vatsld.isRow p.jobs.length ns && Vatsld.unlike ns) = true → (Vatsld.isClosed p (Vatsld.toNats ns) = false → ∀ b H', Same H H' → H' b = some (.lst [.int 1]) → Q (.ref b) H') ∧
    (Vatsld.isClosed p (Vatsld.toNats ns) = true → ∀ b H', Same H H' → H' b = some (.lst [.int 0, .int (Vatsld.missOf p (Vatsld.toNats ns) : Nat), .int (Vatsld.costOf p (Vatsld.toNats ns) : Nat)]) → Q (.ref b) H'))
theorem cal_choice (T : Tx K mg) : Cal P w K mg base 4 "choice" (sp_choice K) := by
  have c_refuse_where := cal_refuse_where (P := P) (w := w) (base := base) T
  have c_is_choice := cal_is_choice (P := P) (w := w) (base := base) T
  have c_Plan_is_closed := met_is_closed (P := P) (w := w) (base := base) T
  have c_Plan_missed := met_missed (P := P) (w := w) (base := base) T
  have c_Plan_cost_of := met_cost_of (P := P) (w := w) (base := base) T
  obtain ⟨fd, F⟩ := T.def_ 65 (d := d_choice) rfl
  refine cal_of F (g_choice T) sc_choice (fun _ _ _ _ _ _ us hl => match us, hl with | [_, _], _ => rfl) (fun vs H Q E h => ?_) fun cdv A outer s H vs Q E hr h => ⟨_, (pss_cons (ps_expr (pe_c c_refuse_where hr (by decide) (passes_call (takes_of rfl rfl rfl rfl) fun _ _ _ _ z => z) (pa_cons (pe_not (pe_c c_is_choice hr (by decide) passL (pa_cons (pv 0) (pa_cons (pv 1) pa_nil)))) (pa_cons (pe_gi (i_NO_LIST T)) pa_nil))))
    (pss_cons (ps_if (pt_not (pt_val (pe_mt c_Plan_is_closed hr (by decide) passL (pv 0) (pa_cons (pv 1) pa_nil)))) (pss_one (ps_ret (pe_lst (pa_cons pe_int pa_nil)))) pss_nil)
    (pss_one (ps_ret (pe_lst (pa_cons pe_int (pa_cons (pe_mt c_Plan_missed hr (by decide) passL (pv 0) (pa_cons (pv 1) pa_nil)) (pa_cons (pe_mt c_Plan_cost_of hr (by decide) passL (pv 0) (pa_cons (pv 1) pa_nil)) pa_nil)))))))), ?_⟩
  · obtain ⟨a, l, p, o, ns, rfl, _⟩ := h
    rfl
  obtain ⟨a, l, p, o, ns, rfl, ⟨g, tl, gs, js, hp⟩, good, hl, ht, hz, hno, q⟩ := h
  walk_at "go"
  refine ⟨a, l, p, o, ns, rfl, ⟨g, tl, gs, js, hp⟩, good, hl, ht, hz, fun H1 e1 => ?_⟩
  walk_at "go"
  refine ⟨_, _, rfl, fun h => (hno (nb1 h)).go e1, fun h => ?_⟩
  have hb := nb2 h
  obtain ⟨q1, q2⟩ := q hb
  rw [Bool.and_eq_true] at hb
  obtain ⟨hns, hlt⟩ := row_nats hb.1
  have hp1 := hp.same e1
  obtain ⟨dp1, hpa1⟩ := hp1.at_
  have hl1 : H1 l = some (.frz o (.lst (vN (Vatsld.toNats ns)))) := by
    rw [vN_eq, ← hns]
    exact e1 _ _ hl
  have htl : (Vatsld.toNats ns).length = ns.length := List.length_map ..
  walk_at "go"
  refine ⟨a, l, p, _, rfl, ⟨g, tl, gs, js, hp1⟩, good, SqL.frz hl1, hlt, fun H2 e2 => ?_⟩
  have hp2 := hp1.same e2
  have hpa2 := e2 _ _ hpa1
  have hl2 := e2 _ _ hl1
  walk_at "go"
  cases hc : Vatsld.isClosed p (Vatsld.toNats ns) with
  | false =>
    walk_at "go"
    refine ⟨of_decide_eq_true rfl, fun b hb => ?_⟩
    generalize hH3 : upd H2 b _ = H3
    obtain ⟨e3, hb3⟩ := new_at hb hH3
    exact q1 hc b H3 (Same.trans e1 (Same.trans e2 e3)) hb3
  | true =>
    walk_at "go"
    refine ⟨a, l, p, _, rfl, ⟨g, tl, gs, js, hp2⟩, good, SqL.frz hl2, fun H3 e3 => ?_⟩
    have hp3 := hp2.same e3
    have hpa3 := e3 _ _ hpa2
    walk_at "go"
    refine ⟨a, l, p, _, rfl, ⟨g, tl, gs, js, hp3⟩, good, SqL.frz (e3 _ _ hl2), hlt, by omega, fun H4 e4 => ?_⟩
    walk_at "go"
    refine ⟨of_decide_eq_true rfl, fun b hb => ?_⟩
    generalize hH5 : upd H4 b _ = H5
    obtain ⟨e5, hb5⟩ := new_at hb hH5
    exact q2 hc b H5 (Same.trans e1 (Same.trans e2 (Same.trans e3 (Same.trans e4 e5)))) hb5
end
end
section
local macro_rules | `(tactic| walk_at "v") => `(tactic| refine ⟨_, rfl, ?_⟩)
local macro_rules | `(tactic| walk_at "ii") => `(tactic| refine ⟨_, _, rfl, rfl, ?_⟩)
local macro_rules | `(tactic| walk_at "no") => `(tactic| first | exact n_Plan_groups ‹_› | exact n_Plan_tests ‹_› | exact n_Group_name ‹_› | exact n_Group_cost ‹_› | exact n_Test_name ‹_› | exact n_Test_cost ‹_› | exact n_Test_chance ‹_› | exact n_Test_group ‹_› | exact n_Test_behind ‹_› | exact n_Token_mark ‹_› | exact n_Token_some ‹_› | exact n_Token_place ‹_› | exact n_Reader_text ‹_› | exact n_Reader_at ‹_› | exact n_Reader_seen ‹_› | exact n_Search_plan ‹_› | exact n_Search_known ‹_› | exact n_Desk_plan ‹_›)
local macro_rules | `(tactic| walk_at "cl") => `(tactic| first | exact c_Plan ‹_› | exact c_Test ‹_› | exact c_Group ‹_› | exact c_Token ‹_› | exact c_Reader ‹_› | exact c_Search ‹_› | exact c_Desk ‹_›)
local macro_rules | `(tactic| walk_at "f") => `(tactic| (refine ⟨_, _, _, _, _, rfl, by first | assumption | exact upd_same, ?cl, ?no, rfl, ?_⟩; (case cl => walk_at "cl"); (case no => walk_at "no")))
local macro_rules | `(tactic| walk_at "m") => `(tactic| refine ⟨_, _, _, rfl, by first | assumption | exact upd_same, rfl, ?_⟩)
local macro_rules | `(tactic| walk_at "go") => `(tactic| repeat (first | walk_at "v" | walk_at "ii" | walk_at "f" | walk_at "m"))
local macro_rules | `(tactic| walk_at "s") => `(tactic| (refine ⟨_, _, _, _, rfl, by first | assumption | exact upd_same, ?cl, ?no, of_decide_eq_true rfl, ?_⟩; (case cl => walk_at "cl"); (case no => walk_at "no")))
abbrev N_told : List Str := ["desk", "which", "number", "listed", "plan"]
theorem sc_told : FnScope N_told ["desk", "which", "number", "listed"] (defScope s_told) := C8.fnScope_by (by decide +kernel)
abbrev N_told_or_refused : List Str := ["desk", "which", "number", "listed", "refusal"]
theorem sc_told_or_refused : FnScope N_told_or_refused ["desk", "which", "number", "listed"] (defScope s_told_or_refused) := C8.fnScope_by (by decide +kernel)
/-- a call as the program is handed it: its place, its number, its list at l -/
inductive CallAt (K : PySem.W.Frag) (H : Hp) (l : Addr) : Int → Int → Vatsld.Call → Prop
  | load (n : Int) (ns : List Int) : H l = some (.lst (ns.map V.int)) → ns.length ≤ 5000 → CallAt K H l 0 n (.load ns)
  | written (n : Int) : CallAt K H l 1 n .written
  | expected (n : Int) (ns : List Int) : SqL K H l (ns.map V.int) → CallAt K H l 2 n (.expected ns)
  | best (n : Int) : CallAt K H l 3 n .best
  | simple (n : Int) : CallAt K H l 4 n .simple
  | machines (n : Int) : CallAt K H l 5 n (.machines n)
  | time (n : Int) (ns : List Int) : SqL K H l (ns.map V.int) → ns.length ≤ 5000 → CallAt K H l 6 n (.time n ns)
  | budget (n : Int) : CallAt K H l 7 n (.budget n)
  | cost (n : Int) (o : Obj) (ns : List Int) : H l = some (.frz o (.lst (ns.map V.int))) → TokL o → ns.length ≤ 5000 → CallAt K H l 8 n (.cost ns)
  | size (n : Int) : CallAt K H l 9 n .size
theorem step_load (p : Vatsld.Plan) (ns : List Int) : Vatsld.step p (.load ns) = if Vatsld.noBytes ns then (p, [-1]) else if 4096 < ns.length then (p, [-2]) else (match Vatsld.readPlan (Vatsld.toNats ns) with
    | .error f => (p, Vatsld.toInts [1, f.1, f.2])
    | .ok p => (p, 0 :: Vatsld.toInts [p.groups.length, p.jobs.length])) := rfl
section
variable {P : Program} {w : World} {K : PySem.W.Frag} {mg : Str → Option Value} {base : Heap}
def sp_told (K : PySem.W.Frag) : Sp := fun vs H Q E => ∃ (dk l a : Addr) (which number : Int) (p : Vatsld.Plan) (c : Vatsld.Call), vs = [.ref dk, .int which, .int number, .ref l] ∧ DeskAt K H dk a ∧ PlanAt K H a p ∧ Good p ∧ CallAt K H l which number c ∧
  (∀ code, (Vatsld.step p c).2 = [code] → (Vatsld.step p c).1 = p → RE K E code H) ∧
  ∀ b a' H', Keep [dk] H H' → DeskAt K H' dk a' → PlanAt K H' a' (Vatsld.step p c).1 → Good (Vatsld.step p c).1 → H' b = some (.lst ((Vatsld.step p c).2.map V.int)) → Q (.ref b) H'
theorem cal_told (T : Tx K mg) : Cal P w K mg base 18 "told" (sp_told K) := by
  have c_load := cal_load (P := P) (w := w) (base := base) T
  have c_plan_text := cal_plan_text (P := P) (w := w) (base := base) T
  have c_expected_told := cal_expected_told (P := P) (w := w) (base := base) T
  have c_order_told := cal_order_told (P := P) (w := w) (base := base) T
  have c_best_order := cal_best_order (P := P) (w := w) (base := base) T
  have c_rule_order := cal_rule_order (P := P) (w := w) (base := base) T
  have c_machines := cal_machines (P := P) (w := w) (base := base) T
  have c_time_told := cal_time_told (P := P) (w := w) (base := base) T
  have c_budget := cal_budget (P := P) (w := w) (base := base) T
  have c_choice := cal_choice (P := P) (w := w) (base := base) T
  have c_size := cal_size (P := P) (w := w) (base := base) T
  obtain ⟨fd, F⟩ := T.def_ 67 (d := d_told) rfl
  refine cal_of F (g_told T) sc_told (fun _ _ _ _ _ _ us hl => match us, hl with | [_, _, _, _], _ => rfl) (fun vs H Q E h => ?_) fun cdv A outer s H vs Q E hr h => ⟨_, (pss_cons (ps_set (i := 4) sc_told.nd rfl (Or.inl rfl) (pe_fld (pv 0) rfl))
    (pss_cons (ps_if (pt_cmpR op_eq (pv 1) (pe_gi (i_LOAD T)) (nomark _)) (pss_one (ps_ret (pe_c c_load hr (by decide) (passes_call (takes_of rfl rfl rfl rfl) fun _ _ _ _ z => z) (pa_cons (pv 0) (pa_cons (pv 3) pa_nil))))) pss_nil)
    (pss_cons (ps_if (pt_cmpR op_eq (pv 1) pe_int (nomark _)) (pss_one (ps_ret (pe_op op_cat (pe_lst (pa_cons pe_int pa_nil)) (pe_c c_plan_text hr (by decide) passL (pa_cons (pv 4) pa_nil))))) pss_nil)
    (pss_cons (ps_if (pt_cmpR op_eq (pv 1) (pe_gi (i_EXPECTED T)) (nomark _)) (pss_one (ps_ret (pe_c c_expected_told hr (by decide) (passes_call (takes_of rfl rfl rfl rfl) fun _ _ _ _ z => z) (pa_cons (pv 4) (pa_cons (pv 3) pa_nil))))) pss_nil)
    (pss_cons (ps_if (pt_cmpR op_eq (pv 1) pe_int (nomark _)) (pss_one (ps_ret (pe_c c_order_told hr (by decide) passL (pa_cons (pv 4) (pa_cons (pe_c c_best_order hr (by decide) passL (pa_cons (pv 4) pa_nil)) pa_nil))))) pss_nil)
    (pss_cons (ps_if (pt_cmpR op_eq (pv 1) pe_int (nomark _)) (pss_one (ps_ret (pe_c c_order_told hr (by decide) passL (pa_cons (pv 4) (pa_cons (pe_c c_rule_order hr (by decide) passL (pa_cons (pv 4) pa_nil)) pa_nil))))) pss_nil)
    (pss_cons (ps_if (pt_cmpR op_eq (pv 1) (pe_gi (i_MACHINES T)) (nomark _)) (pss_one (ps_ret (pe_c c_machines hr (by decide) (passes_call (takes_of rfl rfl rfl rfl) fun _ _ _ _ z => z) (pa_cons (pv 4) (pa_cons (pv 2) pa_nil))))) pss_nil)
    (pss_cons (ps_if (pt_cmpR op_eq (pv 1) (pe_gi (i_TIME T)) (nomark _)) (pss_one (ps_ret (pe_c c_time_told hr (by decide) (passes_call (takes_of rfl rfl rfl rfl) fun _ _ _ _ z => z) (pa_cons (pv 4) (pa_cons (pv 2) (pa_cons (pv 3) pa_nil)))))) pss_nil)
    (pss_cons (ps_if (pt_cmpR op_eq (pv 1) (pe_gi (i_BUDGET T)) (nomark _)) (pss_one (ps_ret (pe_c c_budget hr (by decide) (passes_call (takes_of rfl rfl rfl rfl) fun _ _ _ _ z => z) (pa_cons (pv 4) (pa_cons (pv 2) pa_nil))))) pss_nil)
    (pss_one (ps_ret (pe_ifExp (pt_cmpR op_eq (pv 1) (pe_gi (i_CHOICE T)) (nomark _)) (pe_c c_choice hr (by decide) (passes_call (takes_of rfl rfl rfl rfl) fun _ _ _ _ z => z) (pa_cons (pv 4) (pa_cons (pv 3) pa_nil))) (pe_c c_size hr (by decide) passL (pa_cons (pv 4) pa_nil)))))))))))))), ?_⟩
  · obtain ⟨dk, l, a, which, number, p, c, rfl, _⟩ := h
    rfl
  obtain ⟨dk, l, a, which, number, p, c, rfl, ⟨dx, hdk⟩, hp, good, hc, hr, q⟩ := h
  cases hc with
  | load _ ns hl hz =>
    walk_at "go"
    walk_at "go"
    refine ⟨rfl, ?_⟩
    walk_at "go"
    refine ⟨dk, l, a, ns, rfl, ⟨dx, hdk⟩, hl, hz, fun h => hr _ ?_ ?_, fun h h2 => hr _ ?_ ?_, fun h h2 => ⟨fun pl k hk b H' e hb => ?_, fun p2 hok b a' H' k hd hp' hb => ?_⟩⟩
    · rw [step_load, h] <;> rfl
    · rw [step_load, h] <;> rfl
    · rw [step_load]
      rw [h, if_neg (by decide), if_pos h2]
    · rw [step_load]
      rw [h, if_neg (by decide), if_pos h2]
    · have pe := plan_eq (Vatsld.toNats ns)
      rw [hk] at pe
      have es : Vatsld.step p (.load ns) = (p, Vatsld.toInts [1, k, pl]) := by
        rw [step_load]
        rw [h, if_neg (by decide), if_neg (by omega), ← pe.1]
      rw [es] at q
      exact q b a H' (Keep.of e) ⟨dx, e _ _ hdk⟩ (hp.same e) good (by rw [hb]; rfl)
    · have pe := plan_eq (Vatsld.toNats ns)
      have g2 := pe.2 p2 hok
      rw [hok] at pe
      have es : Vatsld.step p (.load ns) = (p2, 0 :: Vatsld.toInts [p2.groups.length, p2.jobs.length]) := by
        rw [step_load]
        rw [h, if_neg (by decide), if_neg (by omega), ← pe.1]
      rw [es] at q
      exact q b a' H' k hd hp' g2 (by rw [hb]; rfl)
  | written =>
    walk_at "go"
    walk_at "go"
    refine ⟨rfl, ?_⟩
    walk_at "go"
    refine ⟨rfl, ?_⟩
    walk_at "go"
    refine ⟨of_decide_eq_true rfl, fun u hu => ?_⟩
    generalize hH1 : upd H u _ = H1
    obtain ⟨e1, hu1⟩ := new_at hu hH1
    walk_at "go"
    refine ⟨a, p, rfl, hp.same e1, good, fun b H2 e2 _ hb hbl => ?_⟩
    walk_at "go"
    refine ⟨_, _, _, _, rfl, rfl, e2 _ _ hu1, hb, ?_, fun b' hb' => ?_⟩
    · rw [sizeLine_eq]
      show 1 + _ ≤ _
      omega
    · generalize hH3 : upd H2 b' _ = H3
      obtain ⟨e3, hb3⟩ := new_at hb' hH3
      have e03 := Same.trans e1 (Same.trans e2 e3)
      refine q b' a H3 (Keep.of e03) ⟨dx, e03 _ _ hdk⟩ (hp.same e03) good ?_
      rw [hb3, vN_eq] <;> rfl
  | expected _ ns hl =>
    walk_at "go"
    walk_at "go"
    refine ⟨rfl, ?_⟩
    walk_at "go"
    refine ⟨rfl, ?_⟩
    walk_at "go"
    refine ⟨rfl, ?_⟩
    walk_at "go"
    refine ⟨a, l, p, ns, rfl, hp, good, hl, fun h => hr _ ?_ rfl, fun h b H' e hb => q b a H' (Keep.of e) ⟨dx, e _ _ hdk⟩ (hp.same e) good ?_⟩
    · show (if (Vatsld.isRow p.jobs.length ns && Vatsld.isOrder p (Vatsld.toNats ns)) = true then _ else _) = _
      rw [h] <;> rfl
    · rw [hb]
      show _ = some (HO.lst ((if (Vatsld.isRow p.jobs.length ns && Vatsld.isOrder p (Vatsld.toNats ns)) = true then _ else _ : List Int).map V.int))
      rw [h] <;> rfl
  | best =>
    walk_at "go"
    walk_at "go"
    refine ⟨rfl, ?_⟩
    walk_at "go"
    refine ⟨rfl, ?_⟩
    walk_at "go"
    refine ⟨rfl, ?_⟩
    walk_at "go"
    refine ⟨rfl, ?_⟩
    walk_at "go"
    refine ⟨a, p, rfl, hp, good, fun b H1 e1 _ hb => ?_⟩
    have bo := bst_order good p.jobs.length [] none (valid_nil p) (by simp)
    rw [bst_all] at bo
    obtain ⟨b1, b2, b3⟩ := bo
    have hj7 := good.j7
    walk_at "go"
    refine ⟨a, b, p, _, rfl, hp.same e1, good, hb, b3, by omega, fun b' H2 e2 hb' => ?_⟩
    have e02 := Same.trans e1 e2
    refine q b' a H2 (Keep.of e02) ⟨dx, e02 _ _ hdk⟩ (hp.same e02) good ?_
    rw [hb', vN_eq]
    show _ = some (HO.lst ((0 :: ((Vatsld.bestOrder p).cost : Int) :: Vatsld.toInts (Vatsld.bestOrder p).order).map V.int))
    rw [← b2] <;> rfl
  | simple =>
    walk_at "go"
    walk_at "go"
    refine ⟨rfl, ?_⟩
    walk_at "go"
    refine ⟨rfl, ?_⟩
    walk_at "go"
    refine ⟨rfl, ?_⟩
    walk_at "go"
    refine ⟨rfl, ?_⟩
    walk_at "go"
    refine ⟨rfl, ?_⟩
    walk_at "go"
    refine ⟨a, p, rfl, hp, good, fun k hk => (rule_up good k hk).1, fun b H1 e1 _ hb => ?_⟩
    obtain ⟨r1, r2, _⟩ := rule_up good p.jobs.length (Nat.le_refl _)
    have hj7 := good.j7
    walk_at "go"
    refine ⟨a, b, p, _, rfl, hp.same e1, good, hb, r2.lt, by omega, fun b' H2 e2 hb' => ?_⟩
    have e02 := Same.trans e1 e2
    refine q b' a H2 (Keep.of e02) ⟨dx, e02 _ _ hdk⟩ (hp.same e02) good ?_
    rw [hb', vN_eq, rule_all good] <;> rfl
  | machines =>
    walk_at "go"
    walk_at "go"
    refine ⟨rfl, ?_⟩
    walk_at "go"
    refine ⟨rfl, ?_⟩
    walk_at "go"
    refine ⟨rfl, ?_⟩
    walk_at "go"
    refine ⟨rfl, ?_⟩
    walk_at "go"
    refine ⟨rfl, ?_⟩
    walk_at "go"
    refine ⟨rfl, ?_⟩
    walk_at "go"
    refine ⟨a, p, number, rfl, hp, good, fun h => hr _ ?_ rfl, fun h b H' e hb => q b a H' (Keep.of e) ⟨dx, e _ _ hdk⟩ (hp.same e) good ?_⟩
    · show (if Vatsld.isMachines number = true then _ else _) = _
      rw [h] <;> rfl
    · rw [hb]
      show _ = some (HO.lst ((if Vatsld.isMachines number = true then _ else _ : List Int).map V.int))
      rw [h] <;> rfl
  | time _ ns hl hz =>
    walk_at "go"
    walk_at "go"
    refine ⟨rfl, ?_⟩
    walk_at "go"
    refine ⟨rfl, ?_⟩
    walk_at "go"
    refine ⟨rfl, ?_⟩
    walk_at "go"
    refine ⟨rfl, ?_⟩
    walk_at "go"
    refine ⟨rfl, ?_⟩
    walk_at "go"
    refine ⟨rfl, ?_⟩
    walk_at "go"
    refine ⟨rfl, ?_⟩
    walk_at "go"
    refine ⟨a, l, p, number, ns, rfl, hp, good, hl, by omega, fun h => hr _ ?_ rfl, fun h h2 => hr _ ?_ rfl, fun h h2 b H' e hb => q b a H' (Keep.of e) ⟨dx, e _ _ hdk⟩ (hp.same e) good ?_⟩
    · show (if (!Vatsld.isMachines number) = true then _ else _) = _
      rw [h] <;> rfl
    · show (if (!Vatsld.isMachines number) = true then _ else if (decide (ns.length = p.jobs.length) && Vatsld.isRow number.toNat ns) = true then _ else _) = _
      rw [h, h2] <;> rfl
    · rw [hb]
      show _ = some (HO.lst ((if (!Vatsld.isMachines number) = true then _ else if (decide (ns.length = p.jobs.length) && Vatsld.isRow number.toNat ns) = true then _ else _ : List Int).map V.int))
      rw [h, h2] <;> rfl
  | budget =>
    walk_at "go"
    walk_at "go"
    refine ⟨rfl, ?_⟩
    walk_at "go"
    refine ⟨rfl, ?_⟩
    walk_at "go"
    refine ⟨rfl, ?_⟩
    walk_at "go"
    refine ⟨rfl, ?_⟩
    walk_at "go"
    refine ⟨rfl, ?_⟩
    walk_at "go"
    refine ⟨rfl, ?_⟩
    walk_at "go"
    refine ⟨rfl, ?_⟩
    walk_at "go"
    refine ⟨rfl, ?_⟩
    walk_at "go"
    refine ⟨a, p, number, rfl, hp, good, fun h => hr _ ?_ rfl, fun h b c H' e hc hb => q b a H' (Keep.of e) ⟨dx, e _ _ hdk⟩ (hp.same e) good ?_⟩
    · show (if number < 0 ∨ 100000 < number then _ else _) = _
      rw [if_pos h]
    · rw [hb]
      show _ = some (HO.lst ((if number < 0 ∨ 100000 < number then _ else _ : List Int).map V.int))
      rw [if_neg h, hc]
  | cost _ o ns hl ht hz =>
    walk_at "go"
    walk_at "go"
    refine ⟨rfl, ?_⟩
    walk_at "go"
    refine ⟨rfl, ?_⟩
    walk_at "go"
    refine ⟨rfl, ?_⟩
    walk_at "go"
    refine ⟨rfl, ?_⟩
    walk_at "go"
    refine ⟨rfl, ?_⟩
    walk_at "go"
    refine ⟨rfl, ?_⟩
    walk_at "go"
    refine ⟨rfl, ?_⟩
    walk_at "go"
    refine ⟨rfl, ?_⟩
    walk_at "go"
    refine ⟨rfl, ?_⟩
    walk_at "go"
    refine ⟨a, l, p, o, ns, rfl, hp, good, hl, ht, by omega, fun h => hr _ ?_ rfl, fun h => ⟨fun h2 b H' e hb => q b a H' (Keep.of e) ⟨dx, e _ _ hdk⟩ (hp.same e) good ?_, fun h2 b H' e hb => q b a H' (Keep.of e) ⟨dx, e _ _ hdk⟩ (hp.same e) good ?_⟩⟩
    · show (if (!(Vatsld.isRow p.jobs.length ns && Vatsld.unlike ns)) = true then _ else _) = _
      rw [h] <;> rfl
    · rw [hb]
      show _ = some (HO.lst ((if (!(Vatsld.isRow p.jobs.length ns && Vatsld.unlike ns)) = true then _ else if Vatsld.isClosed p (Vatsld.toNats ns) = true then _ else _ : List Int).map V.int))
      rw [h, h2] <;> rfl
    · rw [hb]
      show _ = some (HO.lst ((if (!(Vatsld.isRow p.jobs.length ns && Vatsld.unlike ns)) = true then _ else if Vatsld.isClosed p (Vatsld.toNats ns) = true then _ else _ : List Int).map V.int))
      rw [h, h2] <;> rfl
  | size =>
    walk_at "go"
    walk_at "go"
    refine ⟨rfl, ?_⟩
    walk_at "go"
    refine ⟨rfl, ?_⟩
    walk_at "go"
    refine ⟨rfl, ?_⟩
    walk_at "go"
    refine ⟨rfl, ?_⟩
    walk_at "go"
    refine ⟨rfl, ?_⟩
    walk_at "go"
    refine ⟨rfl, ?_⟩
    walk_at "go"
    refine ⟨rfl, ?_⟩
    walk_at "go"
    refine ⟨rfl, ?_⟩
    walk_at "go"
    refine ⟨rfl, ?_⟩
    walk_at "go"
    refine ⟨a, p, rfl, hp, good, fun b H' e hb => q b a H' (Keep.of e) ⟨dx, e _ _ hdk⟩ (hp.same e) good ?_⟩
    rw [hb] <;> rfl
def sp_told_or (K : PySem.W.Frag) : Sp := fun vs H Q _ => ∃ (dk l a : Addr) (which number : Int) (p : Vatsld.Plan) (c : Vatsld.Call), vs = [.ref dk, .int which, .int number, .ref l] ∧ DeskAt K H dk a ∧ PlanAt K H a p ∧ Good p ∧ CallAt K H l which number c ∧
  ∀ b a' H', Keep [dk] H H' → DeskAt K H' dk a' → PlanAt K H' a' (Vatsld.step p c).1 → Good (Vatsld.step p c).1 → H' b = some (.lst ((Vatsld.step p c).2.map V.int)) → Q (.ref b) H'
theorem cal_told_or (T : Tx K mg) : Cal P w K mg base 19 "told_or_refused" (sp_told_or K) := by
  have c_told := cal_told (P := P) (w := w) (base := base) T
  obtain ⟨fd, F⟩ := T.def_ 68 (d := d_told_or_refused) rfl
  refine cal_of F (g_told_or_refused T) sc_told_or_refused (fun _ _ _ _ _ _ us hl => match us, hl with | [_, _, _, _], _ => rfl) (fun vs H Q E h => ?_) fun cdv A outer s H vs Q E hr h => ⟨_, (pss_one (ps_try_as (i := 4) rfl rfl sc_told_or_refused.nd rfl rfl ⟨rfl, by decide, Or.inl (g_Refused T)⟩ (takes0)
      (fun W pn xe tk _ => (pss_one (ps_ret (pe_cS c_told hr (by decide) (fun σ => passAt tk σ) (pa_cons (pv 0) (pa_cons (pv 1) (pa_cons (pv 2) (pa_cons (pv 3) pa_nil))))))))
      (fun a oe cls d pn hz hf => (pss_one (ps_ret (pe_lst (pa_cons (pe_xf (o_Refused T).2.2.2 (n_Refused_code T) hz hf (pv 4)) pa_nil))))))), ?_⟩
  · obtain ⟨dk, l, a, which, number, p, c, rfl, _⟩ := h
    rfl
  obtain ⟨dk, l, a, which, number, p, c, rfl, ⟨dx, hdk⟩, hp, good, hc, q⟩ := h
  walk_at "go"
  refine ⟨dk, l, a, which, number, p, c, rfl, ⟨dx, hdk⟩, hp, good, hc, fun code e1 e2 d H1 k1 hd => ⟨true, x_Refused T, fun _ x hx => ?_, fun z => by cases z⟩, q⟩
  walk_at "go"
  refine ⟨rfl, rfl, d, _, _, rfl, hd, rfl, ?_⟩
  walk_at "go"
  refine ⟨of_decide_eq_true rfl, fun b hb => ?_⟩
  generalize hH2 : upd H1 b _ = H2
  obtain ⟨e3, hb2⟩ := new_at hb hH2
  have e02 := Same.trans k1 e3
  exact q b a H2 (Keep.of e02) ⟨dx, e02 _ _ hdk⟩ (by rw [e2]; exact hp.same e02) (by rw [e2]; exact good) (by rw [hb2, e1] <;> rfl)
end
end
section
section
variable {X : Cx} {pins : List (Addr × Obj)} {σ : L2.St} {H : Hp} {s : Shared} {f : Addr} {xs : List V}
/-- what is known of a list that is put aside -/
structure Aside (X : Cx) (pins : List (Addr × Obj)) (f : Addr) (xs : List V) (o : Obj) : Prop where
  old : ∀ ob, X.s_0.heap.get? f = some ob → X.H_0 f = none → f ∈ X.ex
  tup : ∀ ys, X.H_0 f ≠ some (.tup ys)
  frz : ∀ ob u, X.H_0 f ≠ some (.frz ob u)
  tbl : ∀ ps, X.H_0 f ≠ some (.tbl ps)
  pins : ∀ p ∈ X.pn ++ pins, p.1 ≠ f
  obj : xs.length ≤ sizeLine ∧ ∃ (its : List Value) (n : Nat), Vals xs its ∧ o = { cls := .type "list", data := .seq its.toArray n }
theorem Inv.aside (I : Inv X pins σ H s) (h : H f = some (.lst xs)) : ∃ o, Aside X pins f xs o ∧ Inv X ((f, o) :: pins) σ (delH H f) s := by
  obtain ⟨hz, its, n, r, ho⟩ := I.hok f _ h
  have nn : ∀ b, H b = none → b ≠ f := fun b q z => by
    rw [z, h] at q
    cases q
  have ne : ∀ b u, H b = some u → u ≠ .lst xs → b ≠ f := fun b u q d z => by
    rw [z, h] at q
    exact d (Option.some.inj q).symm
  have old : ∀ ob, X.s_0.heap.get? f = some ob → X.H_0 f = none → f ∈ X.ex := fun ob e q => by
    by_cases hx : f ∈ X.ex
    · exact hx
    · have z := I.base.free f ob e q hx
      rw [h] at z
      cases z
  have tup : ∀ ys, X.H_0 f ≠ some (.tup ys) := fun ys z => by
    have q := I.base.tups f ys z
    rw [h] at q
    cases q
  have frz : ∀ ob u, X.H_0 f ≠ some (.frz ob u) := fun ob u z => by
    have q := I.base.frzs f ob u z
    rw [h] at q
    cases q
  have tbl : ∀ ps, X.H_0 f ≠ some (.tbl ps) := fun ps z => by
    obtain ⟨m, q⟩ := I.base.tbls f ps z
    rw [h] at q
    cases q
  have hfs : f ∉ X.fs := fun hb => by
    obtain ⟨_, ob, e, _⟩ := I.ok.funs.mem hb
    have z := I.base.free f ob e (I.ok.frf f hb) fun q => I.ok.exfs f q hb
    rw [h] at z
    cases z
  refine ⟨_, ⟨old, tup, frz, tbl, fun p hp => nn _ (I.pin p hp).2.1, hz, its, n, r, rfl⟩, I.ok, I.os, I.bare, ⟨I.base.keep, I.base.slot, fun b o e q hx => ?_, I.base.there, fun b ys e => ?_, fun b o u e => ?_, fun b ps e => ?_⟩, I.loc, I.cell, ?_, fun x c e => ?_, fun p hp => ?_, fun b u e => ?_, I.len⟩
  · rw [delH_ne (nn _ (I.base.free b o e q hx))]
    exact I.base.free b o e q hx
  · have q := I.base.tups b ys e
    rw [delH_ne (ne b _ q fun z => by cases z)]
    exact q
  · have q := I.base.frzs b o u e
    rw [delH_ne (ne b _ q fun z => by cases z)]
    exact q
  · obtain ⟨m, q⟩ := I.base.tbls b ps e
    exact ⟨m, by rw [delH_ne (ne b _ q fun z => by cases z)]; exact q⟩
  · rw [delH_ne (nn _ I.free)]
    exact I.free
  · rw [delH_ne (nn _ (I.freeC x c e))]
    exact I.freeC x c e
  · rcases List.mem_append.mp hp with hp | hp
    · obtain ⟨q1, q2, q3⟩ := I.pin p (List.mem_append.mpr (.inl hp))
      exact ⟨q1, by rw [delH_ne (nn _ q2)]; exact q2, q3⟩
    · rcases List.mem_cons.mp hp with rfl | hp
      · exact ⟨ho, delH_same, (nn _ I.free).symm, hfs, fun v z => by cases z⟩
      · obtain ⟨q1, q2, q3⟩ := I.pin p (List.mem_append.mpr (.inr hp))
        exact ⟨q1, by rw [delH_ne (nn _ q2)]; exact q2, q3⟩
  · have hb : b ≠ f := fun z => by
      rw [z, delH_same] at e
      cases e
    rw [delH_ne hb] at e
    refine (I.hok b u e).stay (fun c v _ q => q) (fun c q => ?_) fun c ys q => ?_
    · rw [delH_ne (ne c _ q fun z => by cases z)]
      exact q
    · rw [delH_ne (ne c _ q fun z => by cases z)]
      exact q
theorem Inv.back {o : Obj} (I : Inv X ((f, o) :: pins) σ H s) (a : Aside X pins f xs o) : H f = none ∧ Inv X pins σ (upd H f (.lst xs)) s := by
  obtain ⟨p1, p2, p3, p4, p5⟩ := I.pin (f, o) (List.mem_append.mpr (.inr (List.mem_cons_self ..)))
  have p1 : s.heap.get? f = some o := p1
  have p2 : H f = none := p2
  have p3 : f ≠ X.env.locals := p3
  obtain ⟨hz, its, n, r, eo⟩ := a.obj
  have ne : ∀ b u, H b = some u → b ≠ f := fun b u q z => by
    rw [z, p2] at q
    cases q
  refine ⟨p2, I.ok, I.os, I.bare, ⟨I.base.keep, I.base.slot, fun b ob e q hx => ?_, I.base.there, fun b ys e => ?_, fun b ob u e => ?_, fun b ps e => ?_⟩, I.loc, I.cell, ?_, fun x c e => ?_, fun p hp => ?_, fun b u e => ?_, I.len⟩
  · have hb : b ≠ f := fun z => by
      subst z
      exact hx (a.old ob e q)
    rw [upd_ne hb]
    exact I.base.free b ob e q hx
  · have q := I.base.tups b ys e
    rw [upd_ne (ne b _ q)]
    exact q
  · have q := I.base.frzs b ob u e
    rw [upd_ne (ne b _ q)]
    exact q
  · obtain ⟨m, q⟩ := I.base.tbls b ps e
    exact ⟨m, by rw [upd_ne (ne b _ q)]; exact q⟩
  · rw [upd_ne p3.symm]
    exact I.free
  · have hc : c ≠ f := fun z => by
      obtain ⟨v, oc, hoc, hd⟩ := I.cell x c e
      rw [z, p1] at hoc
      cases hoc
      exact p5 v hd
    rw [upd_ne hc]
    exact I.freeC x c e
  · have hm : p ∈ X.pn ++ ((f, o) :: pins) := by
      rcases List.mem_append.mp hp with hp | hp
      · exact List.mem_append.mpr (.inl hp)
      · exact List.mem_append.mpr (.inr (List.mem_cons_of_mem _ hp))
    obtain ⟨q1, q2, q3⟩ := I.pin p hm
    exact ⟨q1, by rw [upd_ne (a.pins p hp)]; exact q2, q3⟩
  · by_cases hb : b = f
    · subst hb
      rw [upd_same] at e
      cases e
      exact ⟨hz, its, n, r, by rw [p1, eo]⟩
    · rw [upd_ne hb] at e
      refine (I.hok b u e).stay (fun c v _ q => q) (fun c q => ?_) fun c ys q => ?_
      · rw [upd_ne (ne c _ q)]
        exact q
      · rw [upd_ne (ne c _ q)]
        exact q
/-- f(e, ..), a list of one's own put aside -/
def tCallF (sp : Sp) (E : XK) (t : TA) : TE := fun σ H Q => t σ H fun vs H1 => ∃ (f : Addr) (xs : List V), H1 f = some (.lst xs) ∧ sp vs (delH H1 f) (fun v H2 => H2 f = none → Q v (upd H2 f (.lst xs))) E
theorem pe_cF {k j : Nat} {x : Str} {sp : Sp} {E : XK} {p pos : Pos} {e : Expr} {es : List Expr} {t : TA} (c : Cal X.prog X.w X.K X.mg X.base k x sp) (hr : Room j X.A) (hk : k ≤ j) (hx : Passes (L2.CX X.prog X.w) X E) (ha : PA X (e :: es) t) (hg : Gl X x := by rfl)
    (hdb : (x == ("__debug__" : Str)) = false := by decide) (he : starEach (e :: es) X.env = (false, eval e X.env) :: starEach es X.env := by rfl) (hpl : (backTo pos (starEach es X.env)).any (·.1) = false := by rfl) :
    PE X (.Call (.Name x p) (e :: es) [] pos) (tCallF sp E t) := by
  obtain ⟨f, fd, ps, F, hm, kp, b⟩ := c
  refine ⟨fun pins s σ H Q I h => ?_⟩
  refine wpAny_Call_Name_kw (ld_glob I hg hm ?_ hdb)
  refine PySem.W.callWith_K (h₀ := X.base) I.ok.mod.kin kp (thn (ha.run pos pins s σ H _ I h) fun us s1 ⟨vs, H1, I1, r, g, ys, hg1, q⟩ => ⟨I1.kIn, ?_⟩) he hpl
  obtain ⟨o, a, I2⟩ := Inv.aside I1 hg1
  refine wpAny_mono (run_fn (ds := []) (dvs := []) F (hr.mono hk) b .nil hx I2 r (by rw [List.append_nil]; exact q)) (fun u s2 z => ?_) fun _ _ z => z
  obtain ⟨v, H2, I3, rv, q2⟩ := z
  obtain ⟨n, I4⟩ := Inv.back I3 a
  exact ⟨v, _, I4, rv, q2 n⟩
end
end
section
local macro_rules | `(tactic| walk_at "v") => `(tactic| refine ⟨_, rfl, ?_⟩)
local macro_rules | `(tactic| walk_at "ii") => `(tactic| refine ⟨_, _, rfl, rfl, ?_⟩)
local macro_rules | `(tactic| walk_at "no") => `(tactic| first | exact n_Plan_groups ‹_› | exact n_Plan_tests ‹_› | exact n_Group_name ‹_› | exact n_Group_cost ‹_› | exact n_Test_name ‹_› | exact n_Test_cost ‹_› | exact n_Test_chance ‹_› | exact n_Test_group ‹_› | exact n_Test_behind ‹_› | exact n_Token_mark ‹_› | exact n_Token_some ‹_› | exact n_Token_place ‹_› | exact n_Reader_text ‹_› | exact n_Reader_at ‹_› | exact n_Reader_seen ‹_› | exact n_Search_plan ‹_› | exact n_Search_known ‹_› | exact n_Desk_plan ‹_›)
local macro_rules | `(tactic| walk_at "cl") => `(tactic| first | exact c_Plan ‹_› | exact c_Test ‹_› | exact c_Group ‹_› | exact c_Token ‹_› | exact c_Reader ‹_› | exact c_Search ‹_› | exact c_Desk ‹_›)
local macro_rules | `(tactic| walk_at "f") => `(tactic| (refine ⟨_, _, _, _, _, rfl, by first | assumption | exact upd_same, ?cl, ?no, rfl, ?_⟩; (case cl => walk_at "cl"); (case no => walk_at "no")))
local macro_rules | `(tactic| walk_at "m") => `(tactic| refine ⟨_, _, _, rfl, by first | assumption | exact upd_same, rfl, ?_⟩)
local macro_rules | `(tactic| walk_at "go") => `(tactic| repeat (first | walk_at "v" | walk_at "ii" | walk_at "f" | walk_at "m"))
local macro_rules | `(tactic| walk_at "s") => `(tactic| (refine ⟨_, _, _, _, rfl, by first | assumption | exact upd_same, ?cl, ?no, of_decide_eq_true rfl, ?_⟩; (case cl => walk_at "cl"); (case no => walk_at "no")))
abbrev N_answers : List Str := ["calls", "found", "desk", "at", "which", "end", "number", "listed", "answer"]
theorem sc_answers : FnScope N_answers ["calls"] (defScope s_answers) := C8.fnScope_by (by decide +kernel)
theorem numbers_get {k : Nat} (h : k < 10) : [V.int 0, V.int 0, V.int 0, V.int 0, V.int 0, V.int 1, V.int 1, V.int 1, V.int 0, V.int 0][k]? = some (.int (numsOf k : Nat)) := by
  rcases k with _ | _ | _ | _ | _ | _ | _ | _ | _ | _ | k
  all_goals first | rfl | omega
theorem with_in {k : Nat} (h : k < 10) : inV (.int (k : Nat)) [V.int 0, V.int 2, V.int 6, V.int 8] = withL k := by
  rcases k with _ | _ | _ | _ | _ | _ | _ | _ | _ | _ | k
  all_goals first | rfl | omega
theorem cut_I {xs : List V} {i e : Nat} (h1 : i ≤ e) (h2 : e ≤ xs.length) : cutV xs (some (i : Int)) (some (e : Int)) = (xs.drop i).take (e - i) := by
  unfold cutV
  rw [HT.sIx_nat, HT.sIx_nat, Nat.min_eq_left h2, Nat.min_eq_left (Nat.le_trans h1 h2)]
theorem call_bareAt {K : PySem.W.Frag} {H : Hp} {l : Addr} {k : Nat} {num : Int} {xs : List Int} {c : Vatsld.Call} (h : CallFor k num xs c) (hw : withL k = false) : CallAt K H l (k : Nat) num c := by
  cases h with
  | load => cases hw
  | written => exact .written _
  | expected => cases hw
  | best => exact .best _
  | simple => exact .simple _
  | machines => exact .machines _
  | time => cases hw
  | budget => exact .budget _
  | cost => cases hw
  | size => exact .size _
theorem call_listAt {K : PySem.W.Frag} {H : Hp} {l : Addr} {k : Nat} {num : Int} {xs : List Int} {c : Vatsld.Call} (h : CallFor k num xs c) (hw : withL k = true) (hk : k ≠ 8) (hl : H l = some (.lst (xs.map V.int))) (hz : xs.length ≤ 5000) : CallAt K H l (k : Nat) num c := by
  cases h with
  | load => exact .load _ _ hl hz
  | written => cases hw
  | expected => exact .expected _ _ (SqL.of hl)
  | best => cases hw
  | simple => cases hw
  | machines => cases hw
  | time => exact .time _ _ (SqL.of hl) hz
  | budget => cases hw
  | cost => exact absurd rfl hk
  | size => cases hw
theorem call_costAt {K : PySem.W.Frag} {H : Hp} {l : Addr} {num : Int} {xs : List Int} {c : Vatsld.Call} {o : Obj} (h : CallFor 8 num xs c) (hl : H l = some (.frz o (.lst (xs.map V.int)))) (ht : TokL o) (hz : xs.length ≤ 5000) : CallAt K H l 8 num c := by
  cases h with
  | cost => exact .cost _ _ _ hl ht hz
section
variable {P : Program} {w : World} {K : PySem.W.Frag} {mg : Str → Option Value} {base : Heap}
def sp_answers (K : PySem.W.Frag) : Sp := fun vs H Q _ => ∃ (a : Addr) (ns : List Int), vs = [.ref a] ∧ ArgL K H a (ns.map V.int) ∧ PyVatsld.answers_asked ns = true ∧
  ∀ (H' : Hp) (p : Addr), H' p = some (.lst ((PyVatsld.answers ns).map V.int)) → Q (.ref p) H'
theorem cal_answers (T : Tx K mg) : Cal P w K mg base 20 "answers" (sp_answers K) := by
  have c_Desk := mak_Desk (P := P) (w := w) (base := base) T
  have c_told_or_refused := cal_told_or (P := P) (w := w) (base := base) T
  obtain ⟨fd, F⟩ := T.def_ 69 (d := d_answers) rfl
  refine cal_of F (g_answers T) sc_answers (fun _ _ _ _ _ _ us hl => match us, hl with | [_], _ => rfl) (fun vs H Q E h => ?_) fun cdv A outer s H vs Q E hr h => ⟨_, (pss_cons (ps_set (i := 1) sc_answers.nd rfl (Or.inl rfl) (pe_lst pa_nil))
    (pss_cons (ps_set (i := 2) sc_answers.nd rfl (Or.inl rfl) (pe_mk0 c_Desk hr (by decide) passL))
    (pss_cons (ps_set (i := 3) sc_answers.nd rfl (Or.inl rfl) pe_int)
    (pss_cons (ps_while (passes_of rfl) (pt_cmpR op_lt (pv 3) (pe_callB call_len_seq (by rfl) (f_len T) (by decide +kernel) (pa_cons (pv 0) pa_nil)) (nomark _)) (pss_cons (ps_set (i := 4) sc_answers.nd rfl (Or.inl rfl) (pe_ix ix_list (pv 0) (pv 3) (fun _ _ => rfl)))
    (pss_cons (ps_set (i := 5) sc_answers.nd rfl (Or.inl rfl) (pe_op op_add (pe_op op_add (pv 3) pe_int) (pe_ix ix_tup (pe_gr (g_NUMBERS_OF T)) (pv 4) (fun _ _ => rfl))))
    (pss_cons (ps_set (i := 6) sc_answers.nd rfl (Or.inl rfl) (pe_ifExp (pt_cmpR op_eq (pe_ix ix_tup (pe_gr (g_NUMBERS_OF T)) (pv 4) (fun _ _ => rfl)) pe_int (nomark _)) (pe_ix ix_list (pv 0) (pe_op op_add (pv 3) pe_int) (fun _ _ => rfl)) pe_int))
    (pss_cons (ps_set (i := 7) sc_answers.nd rfl (Or.inl rfl) (pe_lst pa_nil))
    (pss_cons (ps_if (pt_cmpR op_in_seq (pv 4) (pe_gr (g_WITH_LIST T)) rfl) (pss_cons (ps_set (i := 7) sc_answers.nd rfl (Or.inl rfl) (pe_slice (SlR.or sl_list (sl_frz (K := K) rfl)) (pv 0) (po_some (pe_op op_add (pv 5) pe_int)) (po_some (pe_op op_add (pe_op op_add (pv 5) pe_int) (pe_ix ix_list (pv 0) (pv 5) (fun _ _ => rfl))))))
    (pss_one (ps_aug (i := 5) sc_answers.nd rfl (Or.inl rfl) (pe_op op_add pe_int (pe_ix ix_list (pv 0) (pv 5) (fun _ _ => rfl))) ip_add))) pss_nil)
    (pss_cons (ps_set (i := 8) sc_answers.nd rfl (Or.inl rfl) (pe_cF c_told_or_refused hr (by decide) passL (pa_cons (pv 2) (pa_cons (pv 4) (pa_cons (pv 6) (pa_cons (pv 7) pa_nil))))))
    (pss_cons (ps_expr (pe_bm PySem.F.plainAttrs_list PySem.F.slot_list_append PySem.F.type_list_append mt_append (pv 1) (pa_cons (pe_callB call_len_seq (by rfl) (f_len T) (by decide +kernel) (pa_cons (pv 8) pa_nil)) pa_nil)))
    (pss_cons (ps_expr (pe_bm PySem.F.plainAttrs_list PySem.F.slot_list_extend PySem.F.type_list_extend mt_extend (pv 1) (pa_cons (pv 8) pa_nil)))
    (pss_one (ps_set (i := 3) sc_answers.nd rfl (Or.inl rfl) (pv 5))))))))))))
    (pss_one (ps_ret (pv 1))))))), ?_⟩
  · obtain ⟨a, ns, rfl, _⟩ := h
    rfl
  obtain ⟨a, ns, rfl, ha, hask, q⟩ := h
  obtain ⟨cs0, hcs0, hans, hbd, htot⟩ := answers_left hask
  walk_at "go"
  refine ⟨Nat.zero_le _, fun f hf => ?_⟩
  generalize hH1 : upd H f _ = H1
  obtain ⟨e1, h1f⟩ := new_at hf hH1
  dsimp only [gName]
  walk_at "go"
  intro dk dx hdk hdx hne
  refine ⟨dk, dx, rfl, upd_same, fun H2 a0 g0 t0 hs2 hp2 hng hnt e2 => ⟨rfl, ?_⟩⟩
  have e12 : Same H1 H2 := Same.made hdk hdx e2
  have h2f := e12 _ _ h1f
  have h2a := ha.keep fun u h _ _ => e12 _ _ (e1 _ _ h)
  have fdk : f ≠ dk := ne_of_none h1f hdk
  have h1fu : (upd (upd H1 dx (.own dk)) dk (.ins (He.ga K "Desk") dx [])) f = some (.lst []) := by
    rw [upd_ne fdk, upd_ne (ne_of_none h1f hdx)]
    exact h1f
  have hp0 : PlanAt K (delH H2 f) a0 Vatsld.emptyPlan := by
    obtain ⟨⟨dp, p1⟩, p2, p3, p4, p5, p6⟩ := hp2
    have hg : g0 ≠ f := (ne_of_none h1fu hng).symm
    have ht : t0 ≠ f := (ne_of_none h1fu hnt).symm
    have ha0 : a0 ≠ f := ne_of p1 h2f fun z => by cases z
    exact ⟨g0, t0, [], [], ⟨dp, by rw [delH_ne ha0]; exact p1⟩, by rw [delH_ne hg]; exact p2, by rw [delH_ne ht]; exact p3, .nil, .nil, p6⟩
  dsimp only [gName]

  refine while_to (fun σ H' => ∃ (i fu : Nat) (cs : List (List (List Int))) (p : Vatsld.Plan) (a' : Addr) (done : List Int) (v4 v5 v6 v7 v8 : Option V), σ = [some (.ref a), some (.ref f), some (.ref dk), some (.int i), v4, v5, v6, v7, v8] ∧ i ≤ ns.length ∧ PyFlat.calls PyVatsld.shape fu (ns.drop i) = some cs ∧
      (∀ c ∈ cs, PyInside.call PyVatsld.bound c = true) ∧ PyVatsld.answers ns = done ++ left p cs ∧ ArgL K H' a (ns.map V.int) ∧ H' f = some (.lst (done.map V.int)) ∧ DeskAt K H' dk a' ∧ PlanAt K (delH H' f) a' p ∧ Good p)
    (fun σ H' => (∃ v2 v3 v4 v5 v6 v7 v8, σ = [some (.ref a), some (.ref f), v2, v3, v4, v5, v6, v7, v8]) ∧ H' f = some (.lst ((PyVatsld.answers ns).map V.int)))
    (fun σ _ => match σ with
      | [_, _, _, some (.int i), _, _, _, _, _] => ns.length - i.toNat
      | _ => 0) ⟨0, ns.length, cs0, _, a0, [], _, _, _, _, _, rfl, Nat.zero_le _, hcs0, hbd, hans, h2a, h2f, hs2, hp0, good_empty⟩ ?_ ?_
  · rintro Nx hNx σ H3 ⟨i, fu, cs, p, a', done, v4, v5, v6, v7, v8, rfl, hil, hcs, hbd, hans, h3a, h3f, hdk3, hp3, good⟩
    walk_at "go"
    refine ⟨_, _, rfl, .inl (h3a.sq), ?_⟩
    walk_at "go"
    rw [List.length_map, show decide (((i : Nat) : Int) < ((ns.length : Nat) : Int)) = decide (i < ns.length) from decide_eq_decide.mpr (by omega)]
    by_cases hlt : i < ns.length
    · rw [decide_eq_true hlt]
      refine turn ?_
      obtain ⟨k, num, f', c0, cs', hk, hki, rfl, hnum1, hnum0, hpar⟩ := parse_step hlt hcs
      have hn1 : numsOf k = 0 ∨ numsOf k = 1 := by
        rcases k with _ | _ | _ | _ | _ | _ | _ | _ | _ | _ | k
        all_goals first | exact .inl rfl | exact .inr rfl | omega
      have hget : ∀ {j : Nat} {x : Int}, ns[j]? = some x → (ns.map V.int)[j]? = some (.int x) := fun {j x} h => by rw [List.getElem?_map, h] <;> rfl
      obtain ⟨e, xs, c, hie, hel, hcs', hcall, hfor, hwt, hwf⟩ : ∃ (e : Nat) (xs : List Int) (c : Vatsld.Call), i < e ∧ e ≤ ns.length ∧ PyFlat.calls PyVatsld.shape f' (ns.drop e) = some cs' ∧ VatsldNeutral.callOf c0 = some c ∧ CallFor k num xs c ∧
          (withL k = true → ∃ m : Nat, ns[i + 1 + numsOf k]? = some (m : Int) ∧ e = i + 1 + numsOf k + 1 + m ∧ xs = (ns.drop (i + 1 + numsOf k + 1)).take m ∧ xs.length ≤ 5000) ∧ (withL k = false → e = i + 1 + numsOf k) := by
        rcases hpar with ⟨hw, h1, h2, h3⟩ | ⟨hw, m, h1, h2, h3, h4⟩
        · obtain ⟨c, g1, g2⟩ := call_bare (num := num) (l := []) hk hw (xs := if numsOf k = 1 then [num] else []) rfl
          exact ⟨_, [], c, by omega, h1, h2, by rw [h3]; exact g1, g2, fun z => (by rw [hw] at z; cases z), fun _ => rfl⟩
        · obtain ⟨c, g1, g2⟩ := call_with (num := num) (l := (ns.drop (i + 1 + numsOf k + 1)).take m) hk hw (xs := if numsOf k = 1 then [num] else []) rfl
          have hb := hbd c0 (List.mem_cons_self ..)
          rw [h4] at hb
          exact ⟨_, _, c, by omega, h2, h3, by rw [h4]; exact g1, g2, fun _ => ⟨m, h1, rfl, rfl, bound_with hk hw hb⟩, fun z => (by rw [hw] at z; cases z)⟩
      walk_at "go"
      refine ⟨_, _, _, _, rfl, rfl, h3a.sq, atI_nat (hget hki), ?_⟩
      walk_at "go"
      refine ⟨_, _, _, _, rfl, rfl, t_NUMBERS_OF T H3, atI_nat (numbers_get hk), ?_⟩
      refine ⟨_, _, rfl, rfl, ?_⟩
      dsimp only [gName]
      refine joinS (fun σ' H' => σ' = [some (.ref a), some (.ref f), some (.ref dk), some (.int i), some (.int k), some (.int ((i + 1 + numsOf k : Nat) : Int)), some (.int num), v7, v8] ∧ H' = H3) (fun Nx2 hNx2 => ?_) (fun σ' H' hσ => ?_)
      · walk_at "go"
        refine ⟨_, _, _, _, rfl, rfl, t_NUMBERS_OF T H3, atI_nat (numbers_get hk), ?_⟩
        refine ⟨rfl, ?_⟩
        refine ⟨_, rfl, ?_⟩
        rcases hn1 with e0 | e0
        · rw [e0, show decide (V.int ((0 : Nat) : Int) = V.int 1) = false from rfl, if_neg (by decide)]
          refine hNx2 _ _ ⟨?_, rfl⟩
          rw [hnum0 (by omega), e0] <;> rfl
        · rw [e0, show decide (V.int ((1 : Nat) : Int) = V.int 1) = true from rfl, if_pos rfl]
          walk_at "go"
          refine ⟨_, _, _, _, rfl, rfl, h3a.sq, atI_nat (j := i + 1) (hget (hnum1 e0)), ?_⟩
          refine hNx2 _ _ ⟨?_, rfl⟩
          rw [e0] <;> rfl
      · obtain ⟨rfl, rfl⟩ := hσ
        walk_at "go"
        refine ⟨Nat.zero_le _, fun l0 hl0 => ?_⟩
        generalize hH4 : upd H' l0 _ = H4
        obtain ⟨e4, h4l⟩ := new_at hl0 hH4
        have h4a := h3a.keep fun u h _ _ => e4 _ _ h
        have h4f := e4 _ _ h3f
        dsimp only [gName]
        refine joinS (fun σ' H5 => ∃ l, σ' = [some (.ref a), some (.ref f), some (.ref dk), some (.int i), some (.int k), some (.int ((e : Nat) : Int)), some (.int num), some (.ref l), v8] ∧ Same H' H5 ∧ CallAt K (delH H5 f) l (k : Nat) num c) (fun Nx3 hNx3 => ?_) (fun σ' H5 hσ => ?_)
        · walk_at "go"
          refine ⟨_, _, rfl, .inr (t_WITH_LIST T H4), rfl, of_decide_eq_true rfl, ?_⟩
          walk_at "go"
          rw [if_neg (by decide), with_in hk]
          cases hw : withL k with
          | false =>
            have he := hwf hw
            subst he
            exact hNx3 _ _ ⟨l0, rfl, e4, call_bareAt hfor hw⟩
          | true =>
            obtain ⟨m, hm, he, hxs, hxl⟩ := hwt hw
            walk_at "go"
            generalize hbb : i + 1 + numsOf k = b at *
            refine ⟨_, _, _, _, rfl, rfl, h4a.sq, atI_nat (hget hm), ?_⟩
            refine ⟨_, _, rfl, rfl, ?_⟩
            refine ⟨_, rfl, ?_⟩
            have hcut : cutV (ns.map V.int) (some (((b : Nat) : Int) + 1)) (some (((b : Nat) : Int) + 1 + ((m : Nat) : Int))) = xs.map V.int := by
              rw [show ((b : Nat) : Int) + 1 = ((b + 1 : Nat) : Int) from rfl, show ((b + 1 : Nat) : Int) + ((m : Nat) : Int) = ((b + 1 + m : Nat) : Int) by omega, cut_I (by omega) (by rw [List.length_map]; omega), hxs, List.map_take, List.map_drop]
              congr 1
              omega
            have fin : ∀ (l : Addr) (u : HO), H4 l = none → CallAt K (delH (upd H4 l u) f) l (k : Nat) num c → Nx3 [some (.ref a), some (.ref f), some (.ref dk), some (.int i), some (.int k), some (.int ((b : Nat) + (1 + (m : Nat)) : Int)), some (.int num), some (.ref l), v8] (upd H4 l u) := fun l u hl hca => by
              refine hNx3 _ _ ⟨l, ?_, Same.trans e4 (Same.new hl), hca⟩
              rw [he, show ((b : Nat) : Int) + (1 + ((m : Nat) : Int)) = ((b + 1 + m : Nat) : Int) by omega]
            by_cases h8 : k = 8
            · subst h8
              refine .inr ⟨a, _, rfl, h4a, fun l o' hl hto => ?_⟩
              dsimp only [gName]
              walk_at "go"
              refine ⟨_, _, _, _, rfl, rfl, (h4a.keep fun u h _ _ => Same.new hl _ _ h).sq, atI_nat (hget hm), ?_⟩
              refine ⟨_, _, rfl, rfl, ?_⟩
              refine ⟨_, _, rfl, rfl, ?_⟩
              exact fin l _ hl (call_costAt hfor (by rw [delH_ne (ne_of_none h4f hl).symm, upd_same, hcut]) hto hxl)
            · refine .inl ⟨a, _, rfl, h4a.sq, fun l hl => ?_⟩
              dsimp only [gName]
              walk_at "go"
              refine ⟨_, _, _, _, rfl, rfl, (h4a.keep fun u h _ _ => Same.new hl _ _ h).sq, atI_nat (hget hm), ?_⟩
              refine ⟨_, _, rfl, rfl, ?_⟩
              refine ⟨_, _, rfl, rfl, ?_⟩
              exact fin l _ hl (call_listAt hfor hw h8 (by rw [delH_ne (ne_of_none h4f hl).symm, upd_same, hcut]) hxl)
        · obtain ⟨l, rfl, e5, hcat⟩ := hσ
          have h5a := h3a.keep fun u h _ _ => e5 _ _ h
          have h5f := e5 _ _ h3f
          walk_at "go"
          obtain ⟨dxk, hdk3⟩ := hdk3
          have h5dk := e5 _ _ hdk3
          have hdkf : dk ≠ f := ne_of h5dk h5f fun z => by cases z
          have ed : Same (delH H' f) (delH H5 f) := fun b o hb => by
            have hbf : b ≠ f := fun z => by
              rw [z, delH_same] at hb
              cases hb
            rw [delH_ne hbf] at hb ⊢
            exact e5 _ _ hb
          refine ⟨f, done.map V.int, h5f, ?_⟩
          refine ⟨dk, l, a', (k : Nat), num, p, c, rfl, ⟨dxk, by rw [delH_ne hdkf]; exact h5dk⟩, hp3.same ed, good, hcat, fun b a'' H6 k6 hdk6 hp6 g6 hb6 hf6 => ?_⟩
          have h6a : ArgL K H6 a (ns.map V.int) := h5a.keep fun u h hl hi => k6 a _ (by rw [delH_ne (ne_of h h5f fun z => hl _ z)]; exact h) (by simpa using (ne_of h h5dk fun z => hi _ _ _ z))
          have hbf : b ≠ f := ne_of_none hb6 hf6
          have hans2 := hans
          rw [left_cons p hcall] at hans2
          have hlen : done.length + ((Vatsld.step p c).2.length + 1) ≤ 10000000 := by
            have z := congrArg List.length hans2
            rw [List.length_append, List.length_append, List.length_cons] at z
            omega
          have edel : ∀ xs, delH (upd H6 f (.lst xs)) f = H6 := fun xs => by
            funext b'
            by_cases z : b' = f
            · rw [z, delH_same, hf6]
            · rw [delH_ne z, upd_ne z]
          have h7 : ∀ xs b' u, H6 b' = some u → (upd H6 f (.lst xs)) b' = some u := fun xs b' u hb' => by
            rw [upd_ne (ne_of_none hb' hf6)]
            exact hb'
          have h7f : ∀ xs, (upd H6 f (.lst xs)) f = some (.lst xs) := fun xs => upd_same
          dsimp only [gName]
          walk_at "go"
          refine ⟨.inl ⟨rfl, _, SqL.of (h7f _)⟩, ?_⟩
          walk_at "go"
          refine ⟨_, _, rfl, .inl (SqL.of (h7 _ _ _ hb6)), ?_⟩
          refine ⟨_, _, _, rfl, rfl, h7f _, by rw [List.length_map, sizeLine_eq]; omega, ?_⟩
          rw [upd_upd]
          walk_at "go"
          refine ⟨.inl ⟨rfl, _, SqL.of (h7f _)⟩, ?_⟩
          walk_at "go"
          refine ⟨f, b, _, _, rfl, rfl, h7f _, h7 _ _ _ hb6, ?_, ?_⟩
          · rw [List.length_append, List.length_map, List.length_map, sizeLine_eq, List.length_cons, List.length_nil]
            omega
          rw [upd_upd]
          walk_at "go"
          dsimp only [gName]
          refine ⟨⟨e, f', cs', (Vatsld.step p c).1, a'', done ++ ((((Vatsld.step p c).2.length : Nat) : Int) :: (Vatsld.step p c).2), _, _, _, _, _, rfl, hel, hcs', fun c hc => hbd c (List.mem_cons_of_mem _ hc), ?_, h6a.keep fun u h _ _ => h7 _ _ _ h, ?_, hdk6.elim fun dx6 z => ⟨dx6, h7 _ _ _ z⟩, ?_, g6⟩, ?_⟩
          · rw [hans2, List.append_assoc]
          · rw [h7f, List.length_map, List.map_append, List.map_cons, List.append_assoc]
            rfl
          · rw [edel]
            exact hp6
          · show ns.length - ((e : Nat) : Int).toNat < ns.length - ((i : Nat) : Int).toNat
            rw [Int.toNat_natCast, Int.toNat_natCast]
            omega
    · rw [decide_eq_false hlt]
      have hcn := calls_nil (by omega) hcs
      subst hcn
      rw [left_nil, List.append_nil] at hans
      refine hNx _ _ ⟨⟨_, _, _, _, _, _, _, rfl⟩, ?_⟩
      rw [hans]
      exact h3f
  · rintro σ H3 ⟨⟨v2, v3, v4, v5, v6, v7, v8, rfl⟩, h3f⟩
    walk_at "go"
    exact q H3 f h3f
end
end
end Tp
end
section
set_option Elab.async false
set_option linter.all false
set_option maxRecDepth 100000
set_option maxHeartbeats 0
namespace Tp
open PySem PySem.W PySem.Calls PyProof.Rows
section
abbrev R : OpenSpec := PySem.Challenge.rw_testplans_s01_answers
def loose0 : List PySem.Str := ["time_of", "all_ways", "best_way", "is_way", "is_choice", "all_choices", "best_choice", "WORDS", "SIGNS", "BLANKS", "HASH", "LINE_END", "UNDERLINE", "MOST_WORD", "MOST_DIGITS", "MOST_NUMBER", "NAME", "NUMBER", "END", "NO_TOKEN", "BAD_TOKEN", "NOT_HERE", "TOO_SHORT", "Fault", "Token", "bytes_of", "is_small", "is_digit", "is_in_word", "number_of"]
def loose1 : List PySem.Str := ["word_at", "number_at", "token_at", "Reader", "TOO_MUCH", "TWICE", "UNKNOWN", "NOT_RIGHT", "MOST_GROUPS", "MOST_TESTS", "MOST_CHANCE", "NO_GROUP", "Group", "Test", "Plan", "known", "new_name", "read_group", "take_right", "read_behind", "read_test", "read_plan", "digits_of", "joined", "test_line", "plan_text", "HUNDRED", "scaled", "step_cost", "group_behind"]
def loose2 : List PySem.Str := ["is_order", "expected", "may_run", "Search", "best_order", "comes_before", "is_first", "rule_order", "LOAD", "EXPECTED", "MACHINES", "TIME", "BUDGET", "CHOICE", "NUMBERS_OF", "WITH_LIST", "NO_BYTES", "TOO_LONG", "NOT_SO", "NO_LIST", "MOST_BYTES", "MOST_MACHINES", "MOST_BUDGET", "Refused", "Desk", "refuse_where", "load", "expected_told", "order_told", "ask_machines"]
def loose3 : List PySem.Str := ["machines", "time_told", "budget", "choice", "size", "told", "told_or_refused"]
def loose : List PySem.Str := loose0 ++ loose1 ++ loose2 ++ loose3
/-- the hook, and that tokens have been given out -/
def hook2 : PySem.W.Hook where
  α := hook.α × Bool
  obs := fun s => (hook.obs s, Nat.blt 0 s.toks)
  val := fun w => (hook.val w, true)
  says := hook.says
  of := fun w s e => hook.of w s (congrArg Prod.fst e)
  keeps := hook.keeps
def ob2 (s : PySem.W.SharedT) : (He.AlD × Bool) × Bool := (ob s, Nat.blt 0 s.toks)
theorem ob2_eq (s : PySem.W.SharedT) : ob2 s = hook2.obs s.abs := by
  show (ob s, Nat.blt 0 s.toks) = (hook.obs s.abs, Nat.blt 0 s.abs.toks)
  rw [ob_eq s] <;> rfl
theorem run (w : World) : HandSHeadRun.RunEqS R (PySem.W.view R.prog [102]) hook2 ob2 8000 loose w := by
  intro os
  kernel_rfl
end
end Tp
end
section
set_option Elab.async false
set_option linter.all false
set_option maxRecDepth 100000
set_option maxHeartbeats 4000000
/-! TpEnd: the row's end. A list of ints is laid with tokens other than 0; the def is entered; the head, keeping that. -/
namespace Tp
open PySem PySem.Spec PyProof.Rows L2
open PySem.W (Codec WData OpenSpec WRecords ReadsW layAllW Laid)
/-- ints that are laid: what they stand for, and their tokens -/
theorem lay_ints {R : WRecords} {cl : Str → Option Addr} {P : Params} {ord : List DictEntry → List DictEntry} : ∀ (ns : List Int) (s : Shared) (q : List Value × Shared), layAllW R cl P ord (ns.map WData.int) s = some q → 0 < s.toks →
    Vals (ns.map V.int) q.1 ∧ ∀ v ∈ q.1, ∀ i t, v = Value.int i t → t ≠ 0
  | [], s, q, h, _ => by
    have h1 : some (([] : List Value), s) = some q := by
      rw [← h]
      simp [layAllW]
    cases h1
    exact ⟨.nil, fun v hv => (nomatch hv)⟩
  | n :: r, s, q, h, hp => by
    obtain ⟨a, q', h1, h2, rfl⟩ := PySem.W.layAllW_cons h
    have h3 : some (Value.int n s.toks, { s with toks := s.toks + 1 }) = some a := by
      rw [← h1]
      simp [PySem.W.layW]
    cases h3
    obtain ⟨i1, i2⟩ := lay_ints r _ q' h2 (Nat.succ_pos _)
    refine ⟨.cons ⟨_, rfl⟩ i1, fun v hv i t e => ?_⟩
    rcases List.mem_cons.mp hv with z | z
    · rw [z] at e
      injection e with _ e
      rw [← e]
      exact Nat.ne_of_gt hp
    · exact i2 v z i t e
/-- one list of ints, laid -/
theorem laid_ints {w : World} {s₀ s₁ : Shared} {ns : List Int} {vs : List Value} {as : List Addr} (L : Laid [] w s₀ s₁ [.list (ns.map WData.int)] vs as) (ht : 0 < s₀.toks) :
    ∃ (n : Addr) (us : List Value), vs = [.ref n] ∧ s₁.heap.get? n = some { cls := .type "list", data := .seq us.toArray } ∧ Vals (ns.map V.int) us ∧ ∀ v ∈ us, ∀ i t, v = Value.int i t → t ≠ 0 := by
  obtain ⟨ord, _, h⟩ := L.laid
  obtain ⟨a, q, h1, h2, e⟩ := PySem.W.layAllW_cons h
  obtain ⟨q', h3, rfl⟩ := PySem.W.layW_list h1
  have h4 : some (([] : List Value), ({ q'.2 with heap := q'.2.heap.push { cls := .type "list", data := .seq q'.1.toArray } } : Shared)) = some q := by
    rw [← h2]
    simp [layAllW]
  cases h4
  injection e with e1 e2
  subst e1 e2
  obtain ⟨i1, i2⟩ := lay_ints ns s₀ q' h3 ht
  exact ⟨_, q'.1, rfl, Heap.get?_push_size _ rfl, i1, i2⟩
section
variable {P : Program} {w : World} {K : PySem.W.Frag} {mg mb : Str → Option Value} {k : Nat} {fa n : Addr} {x : Str} {sp : Sp} {s₁ : Shared} {us : List Value} {ns : List Int} {R : WRecords} {cl : Str → Option Addr} {d0 : WData}
/-- a def of one list of ints is entered -/
theorem call_ints (KX : K.In s₁.heap) (hns : s₁.heap.Ns mainGlobals mg) (hb : s₁.heap.Ns builtinsNs mb) (hbb : ∀ x : Str, x ≠ "__name__" → mb x = bootBuiltins x) (hlim : s₁.heap.NoLimit) (hg : s₁.gens = #[])
    (he : s₁.heap.get? n = some { cls := .type "list", data := .seq us.toArray }) (hv : Vals (ns.map V.int) us) (hz : us.length ≤ sizeLine) (ht : ∀ v ∈ us, ∀ i t, v = Value.int i t → t ≠ 0) (hr : Room k callerA)
    (F : ∀ base : Heap, Cal P w K mg base k x sp) (hm : mg x = some (.ref fa))
    (hsp : ∀ H : Hp, ArgL K H n (ns.map V.int) → sp [.ref n] H (fun v H' => Dw K H' v d0) fun _ _ _ => False) :
    codeAny (model P w) callerA (.call (.ref fa) ⟨[.ref n], []⟩) (fun r s' => ∃ u as, r = .ok (.ret u) ∧ ReadsW R cl s'.heap u d0 as ∧ OldK s₁.heap s'.heap ∧ s'.os = s₁.os ∧ AllBare s'.gens) s₁ := by
  obtain ⟨H, hH, hA⟩ : ∃ H : Hp, (∀ b u, H b = some u → b = n ∧ K.lookup n = none ∧ u = .frz { cls := .type "list", data := .seq us.toArray } (.lst (ns.map V.int))) ∧ ArgL K H n (ns.map V.int) := by
    have tk : TokL { cls := .type "list", data := .seq us.toArray } := ⟨_, _, rfl, fun v hv => ht v (by simpa using hv)⟩
    cases hk : K.lookup n with
    | none =>
      refine ⟨fun b => if b = n then some (.frz { cls := .type "list", data := .seq us.toArray } (.lst (ns.map V.int))) else none, fun b u q => ?_, _, tk, .inl (if_pos rfl)⟩
      by_cases z : b = n
      · have q2 := (if_pos z).symm.trans q
        cases q2
        exact ⟨z, rfl, rfl⟩
      · have q2 := (if_neg z).symm.trans q
        cases q2
    | some o =>
      refine ⟨fun _ => none, fun b u q => (by cases q), _, tk, .inr ⟨us.toArray, 0, ?_, rfl, rfl, rfl, by rw [List.size_toArray]; exact hz, by simpa using hv⟩⟩
      have e2 := KX n o hk
      rw [he] at e2
      rw [hk, Option.some.inj e2]
  have hok : HOk P w H s₁.heap := fun b u q => by
    obtain ⟨rfl, _, rfl⟩ := hH b u q
    exact ⟨he, by rw [List.length_map]; exact (by have := hv.length; rw [List.length_map] at this; omega), us, _, hv, he⟩
  have noA : ∀ {b : Addr} {o : Obj} {es : Array DictEntry} {ep : Nat}, s₁.heap.get? b = some o → o.data = .dict es ep → H b = none := fun {b o es ep} e d => by
    cases q : H b with
    | none => rfl
    | some u =>
      obtain ⟨rfl, _, _⟩ := hH b u q
      rw [he] at e
      cases e
      cases d
  have nsK : ∀ {b : Addr} {m : Str → Option Value}, s₁.heap.Ns b m → (hidT s₁.heap H).Ns b m := fun {b m} ⟨o, es, ep, e, d, r⟩ => ⟨o, es, ep, hidT_get e (noA e d), d, r⟩
  have nK : ∀ b o, K.lookup b = some o → H b = none := fun b o e => by
    cases q : H b with
    | none => rfl
    | some u =>
      obtain ⟨rfl, e2, _⟩ := hH b u q
      rw [e2] at e
      cases e
  have hKb : K.In (hidT s₁.heap H) := fun b o e => hidT_get (KX b o e) (nK b o e)
  have hM : Mod K mg (hidT s₁.heap H) := ⟨hKb, nsK hns, ⟨mb, nsK hb, hbb⟩, let ⟨mc, h1, h2⟩ := hlim; ⟨mc, nsK h1, h2⟩⟩
  have e0 : Env0 P w K mg (hidT s₁.heap H) callerA [] s₁ H := ⟨rfl, hM, fun b o e => of_hidT e, Nat.le_of_eq (hidT_size _ _), trivial, fun b hb => (nomatch hb), hok, .of_eq hg⟩
  obtain ⟨f1, fd, ps, F1, hm1, _, hbd⟩ := F (hidT s₁.heap H)
  obtain rfl : f1 = fa := by
    rw [hm] at hm1
    injection hm1 with e
    injection e with e
    exact e.symm
  have hl : ([Value.ref n] : List Value).length = ps.length := F1.len _ _ _ _ (hsp H hA)
  have hbind : BindsTo s₁ fd ⟨[.ref n], []⟩ (ps.zip [.ref n]) := hbd s₁ [.ref n] KX hl
  refine codeAny_mono (F1.run callerA [] s₁ H ⟨[.ref n], []⟩ [.ref n] [.ref n] _ _ hr e0 hbind (.cons rfl .nil) (hsp H hA)) fun r s' y => ?_
  cases r with
  | error e =>
    obtain ⟨_, _, _, _, _, _, _, _, _, _, _, _, z⟩ := y
    exact z.elim
  | ok fl =>
    cases fl with
    | next => exact False.elim y
    | brk => exact False.elim y
    | cont => exact False.elim y
    | ret u =>
      obtain ⟨v, H', os, bare, un, hok', r', q⟩ := y
      have kept : ∀ b o, s₁.heap.get? b = some o → s'.heap.get? b = some o := fun b o e => by
        cases q2 : H b with
        | none => exact un.keep b o e q2 (fun z => (nomatch z)) (by simp)
        | some u2 =>
          obtain ⟨rfl, _, rfl⟩ := hH b u2 q2
          have z := (hok' _ _ (un.frzs _ _ _ q2)).1
          rw [he] at e
          rw [z, e]
      obtain ⟨as, hrd⟩ := Dw.reads (R := R) (cl := cl) hok' (fun b o e => kept b o (KX b o e)) d0 v u q r'
      exact ⟨u, as, rfl, hrd, OldK.of_keep kept, os, bare⟩
end
end Tp
namespace TpHd
open PySem PySem.W PySem.Calls PyProof.Rows
/-- a Spec row's head: what the run has left, and that tokens have been given out before the arguments are laid -/
theorem holds_tok {r : OpenSpec} {q : Program} {loose : List Str} {Xt : Shared → Bool} {XP : (Str → Option Value) → Heap → Prop} {α : Type} {Yf : Shared → α} {Ya : World → α} {YP : World → Heap → Prop} {d : DefRec} {kwd : List (Str × Expr)} {N : Nat}
    (left : LeftO r.prog q loose Xt Yf Ya N) (hY : ∀ w s, Yf s = Ya w → YP w s.heap) (hYt : ∀ w s, Yf s = Ya w → 0 < s.toks) (hYk : ∀ w h h', YP w h → (∀ b o, h.get? b = some o → h'.get? b = some o) → YP w h')
    (hX : ∀ s, Xt s = true → XP (s.heap.nsMap mainGlobals) s.heap) (hXk : ∀ mg h h', XP mg h → (∀ b o, h.get? b = some o → h'.get? b = some o) → XP mg h')
    (hdef : defOf q r.name = some (d, kwd)) (hp : r.prog.theDef r.name = some (d.params, d.body, d.scope)) (hk : kwWritten? d.params.kwonlyargs d.params.kw_defaults = some kwd) (hRf : ∀ s, Xt s = true → RecFacts [] s.heap)
    (hsh : ∀ as, r.pre as = true → WShape.hasAll [] as (r.args.map Codec.shape) = true) (k1 : r.wellSaid = true) (ok : (chainsOk q && opensWell r.prog) = true) (hb : r.prog.bare) (hw : ∃ args, r.pre args = true ∧ WData.layableAll args = true)
    (call : ∀ (w : World) (s₀ s₁ : Shared) (mg mb : Str → Option Value), Ground q loose [] XP w s₀ mg mb s₁.heap → YP w s₁.heap → 0 < s₀.toks → ∀ a : Addr, mg d.name = some (.ref a) → ∀ (args : List WData) (vals : List Value) (as : List Addr),
      r.pre args = true → WData.layableAll args = true → Laid [] w s₀ s₁ args vals as → wpAny (model r.prog w) callerA (PySem.call (.ref a) vals) (fun v s' => GoodWG r.claim (classAt s₀.heap) (ExcName.means s₀.heap) args s₁ (.ok (.ret v)) s')
        (fun e s' => GoodWG r.claim (classAt s₀.heap) (ExcName.means s₀.heap) args s₁ (.error e) s') s₁) : r.Holds := by
  obtain ⟨hch, o1⟩ := Bool.and_eq_true_iff.mp ok
  refine ⟨k1, ⟨hb, o1, rfl⟩, hw, fun w => ⟨(left.behind hX hch w).1, fun s2 hs2 => ?_⟩⟩
  obtain ⟨t, hf, hg0, s, hT, hz, hgens, hg, G00, y⟩ := (left.behind (XP := fun mg h => XP mg h ∧ RecFacts [] h) (fun s hs => ⟨hX s hs, hRf s hs⟩) hch w).2 s2 hs2
  have G : Ground q loose [] XP w s (s.heap.nsMap mainGlobals) (s.heap.nsMap builtinsNs) s.heap := ⟨G00.T, G00.B, G00.D, G00.TE, G00.TD, G00.W, G00.X.1, G00.cls, G00.has, G00.apart, G00.once, G00.K⟩
  have RF := G00.X.2
  have hT2 := hT
  have none_gens : s.gens = #[] := Array.eq_empty_of_size_eq_zero (beq_iff_eq.mp hgens)
  refine ⟨t, hf, hg0, s, hT, fun n hn => ?_, RF.1, RF.2.1, ?_⟩
  · obtain rfl : n = r.name := by simpa using hn
    exact pinned_of_view hg G hdef hp hk
  refine ClaimW.callFrom_of_specG (c := r.claim) hz none_gens fun args hpre hlay ord hord => ?_
  obtain ⟨⟨vs, s₁⟩, hlaid⟩ := Option.isSome_iff_exists.mp (layAllW_isSome (P := w.params) (ord := ord) G.has args (r.args.map Codec.shape) s (hsh _ hpre))
  have keeps := layAllW_keeps _ _ _ hlaid
  have hal := layAllW_rest _ _ _ hlaid
  obtain ⟨as, hrd, hin, hold⟩ := reads_layAllW hord _ _ _ hlaid hlay s₁.heap (fun _ _ e => e)
  have L : Laid [] w s s₁ args vs as := ⟨⟨ord, hord, hlaid⟩, hrd, hin, hold, keeps, hal.1.trans none_gens, hal.2.2.1⟩
  have G₁ := G.keeps hXk keeps
  obtain ⟨a, o, pm, cd, doc, dV, kV, h1, _⟩ := G₁.fn hdef
  have h1 : (s.heap.nsMap mainGlobals) d.name = some (.ref a) := defOf_name hdef ▸ h1
  have h2 : (s.heap.nsMap mainGlobals) r.name = some (.ref a) := by
    rw [← h1, defOf_name hdef]
  have h := call w s s₁ _ _ G₁ (hYk _ _ _ (hY w s y) keeps) (hYt w s y) a h1 args vs as hpre hlay L
  refine ⟨vs, s₁, hlaid, wpAny_bind (wpAny_nsGet G₁.T.g ?_)⟩
  rw [h2]
  refine wpAny_bind (wpAny_mono h (fun v s' g => wpAny_pure ?_) fun e s' g => ?_)
  · have z := g.laid (c := r.claim) rfl rfl (fun _ _ => rfl) L
    exact ⟨_, rfl, z.1, z.2.1, z.2.2, fun q => ⟨namesKept_of hT2 hg [] keeps g.2.1.old, noTable rfl q⟩⟩
  · have z := g.laid (c := r.claim) rfl rfl (fun _ _ => rfl) L
    exact ⟨z.1, z.2.1, z.2.2, fun q => ⟨namesKept_of hT2 hg [] keeps g.2.1.old, noTable rfl q⟩⟩
/-- the same, from the run's equation and a hook that tells that tokens have been given out -/
theorem head_tok {r : OpenSpec} {q : Program} {H : Hook} {ob : SharedT → H.α} {M : Nat} {loose : List Str} {d : DefRec} {kwd : List (Str × Expr)} (ho : ∀ s : SharedT, ob s = H.obs s.abs) (htok : ∀ w s, H.obs s = H.val w → 0 < s.toks)
    (e : opening r.prog = plainProg r.prog.main.scope.names) (f : ∀ s, fenceModules? r.prog s = some s) (run : ∀ w, HandSHeadRun.RunEqS r q H ob M loose w)
    (hdef : defOf q r.name = some (d, kwd)) (hp : r.prog.theDef r.name = some (d.params, d.body, d.scope)) (hk : kwWritten? d.params.kwonlyargs d.params.kw_defaults = some kwd)
    (hsh : ∀ as, r.pre as = true → WShape.hasAll [] as (r.args.map Codec.shape) = true) (k1 : r.wellSaid = true) (ok : (chainsOk q && opensWell r.prog) = true) (hb : r.prog.bare) (hw : ∃ args, r.pre args = true ∧ WData.layableAll args = true)
    (call : ∀ (w : World) (s₀ s₁ : Shared) (mg mb : Str → Option Value), Ground q loose [] (XL q []) w s₀ mg mb s₁.heap → H.says w s₁.heap → 0 < s₀.toks → ∀ a : Addr, mg d.name = some (.ref a) → ∀ (args : List WData) (vals : List Value) (as : List Addr),
      r.pre args = true → WData.layableAll args = true → Laid [] w s₀ s₁ args vals as → wpAny (model r.prog w) callerA (PySem.call (.ref a) vals) (fun v s' => GoodWG r.claim (classAt s₀.heap) (ExcName.means s₀.heap) args s₁ (.ok (.ret v)) s')
        (fun e s' => GoodWG r.claim (classAt s₀.heap) (ExcName.means s₀.heap) args s₁ (.error e) s') s₁) : r.Holds := by
  have left : LeftO r.prog q loose (fun s => xlAt q [] s && recOk [] s) H.obs H.val (M + 600) true :=
    HandSHeadRun.left_one (M := M) e (Nat.ble_eq_true_of_le (by omega)) f (Nat.ble_eq_true_of_le (by omega)) fun w os => by
      have z := run w os
      rw [show ob = fun s => H.obs s.abs from funext ho] at z
      simp only [HandSHeadRun.endQ_eq, HandSHeadRun.seenQ_eq]
      exact z
  exact holds_tok left H.of htok H.keeps (fun s z => xl_of s (Bool.and_eq_true_iff.mp z).1) XL.keeps hdef hp hk (fun s z => recFacts_of (Bool.and_eq_true_iff.mp z).2) hsh k1 ok hb hw call
end TpHd
end
open PySem PySem.W PySem.Calls PyProof.Rows
set_option maxRecDepth 100000 in
set_option maxHeartbeats 8000000 in
theorem PySem.Challenge.cw_testplans_s01_answers_holds : PySem.Challenge.rw_testplans_s01_answers.Holds := by
  w_on
  refine TpHd.head_tok (r := Tp.R) (q := PySem.W.view Tp.R.prog [102]) (H := Tp.hook2) (ob := Tp.ob2) (M := 8000) (loose := Tp.loose) (d := HandSHeadRun.topDef Tp.R.prog 102) (kwd := []) Tp.ob2_eq (fun w s e => Nat.le_of_ble_eq_true (congrArg Prod.snd e))
    (by kernel_rfl) (fun s => by kernel_rfl) Tp.run (by kernel_rfl) (by kernel_rfl) (by kernel_rfl) os_shapes (by decide +kernel) (by decide +kernel) ⟨rfl, rfl, rfl, rfl, rfl, by decide +kernel⟩ ⟨[.list [.int 9]], by decide +kernel, by decide +kernel⟩ ?hc
  case hc =>
    intro w s₀ s₁ mg mb G Y htk fa hmg0 args vals as hpre hlay L
    obtain ⟨a, e1, e2⟩ := PySem.W.os_pre_some hpre
    obtain ⟨e3, hwi⟩ := PySem.W.Codec.encAll_of_decAll Tp.R.args args a e1
    subst e3
    obtain ⟨K, KX, c⟩ := Y
    have hmg : mg ("answers" : PySem.Str) = some (.ref fa) := by
      have e : (HandSHeadRun.topDef Tp.R.prog 102).name = ("answers" : PySem.Str) := by kernel_rfl
      rw [← e]
      exact hmg0
    have T : Tp.Tx K mg := ⟨⟨s₁.heap, KX, G.T.g⟩, c⟩
    have L3 : Laid [] w s₀ s₁ [.list (a.1.map WData.int)] vals as := L
    obtain ⟨n, us, rfl, he, hv, ht⟩ := Tp.laid_ints L3 htk
    have hz : us.length ≤ sizeLine := by
      have z : WData.weightAll (a.1.map WData.int) ≤ 1048576 := L2.layable_weight hlay (.list (a.1.map WData.int)) (List.mem_singleton.mpr rfl)
      have z2 := Nat.le_trans (PySem.W.length_le_weightAllW _) z
      have z3 := hv.length
      rw [List.length_map] at z2 z3
      refine L2.line_of ?_
      omega
    have fin := Tp.call_ints (P := Tp.R.prog) (w := w) (k := 20) (R := []) (cl := classAt s₀.heap) (d0 := Tp.R.ret.enc (PySem.W.Codec.app Tp.R.args Tp.R.f a)) KX G.T.g G.T.b G.T.builtins G.T.nolimit L.gens he hv hz ht ⟨rfl, by decide, by decide⟩
      (fun base => Tp.cal_answers T) hmg (fun H hA => ⟨n, a.1, rfl, hA, e2, fun H' p hp => .lst (L2.SqL.of hp) (L2.dw_ints _)⟩)
    refine PySem.W.enter_call (codeAny_mono fin fun r' s' hq => ?_)
    obtain ⟨u, as', rfl, h1, h2, h3, h4⟩ := hq
    exact ⟨.inl ⟨u, _, as', rfl, fun _ => rfl, h1, (PySem.W.OpenSpec.post_iff (by decide +kernel) hwi _ _).mpr rfl, fun z => Bool.noConfusion (show false = true from z)⟩, h2, h3, h4⟩
