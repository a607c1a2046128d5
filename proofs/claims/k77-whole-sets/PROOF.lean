import PyProof.Rows.All
import Wide.All
import OpenK.AllK
import Wide.FinOn
import KE.KStateDown
import HandS.Base
import HandS.Call
import HandS.Ends
import HandS.More
import HandS.Words
import HandS.WordsExc
import HandS.Defaults
import HandS.Head0
import HandS.Head1
import HandS.Head2
import HandS.HeadEnd
import HandS.HeadHook1
import HandS.HeadHook2
import HandS.List
import HandS.Comp
import HandS.Dict
import HandS.Iter
import HandS.Text
import HandS.Codes
import HandS.OwnEq
import HandS.IterVal
import HandS.Property
import HandS.Deep
import HandS.TupAny
import HandS.DictComp
import HandS.ListItems
import HandS.Strs
import HandS.Conv
import HandS.WordsList
import HandS.WordsDict
import HandS.Style
import HandS.RaiseMore
import HandS.Star
import KE.GoesSet
import KE.GoesEnum
import PyProof.Rows.InDataRows
import HandS.SetBool
import HandS.Set
import PyProof.DictUpdate
import PyProof.DictDisplay
import PySem.Challenge.RW_savedseats_k77_whole_sets_that_mend
set_option Elab.async false
set_option linter.all false
set_option maxRecDepth 100000
set_option maxHeartbeats 0
namespace Sv
open PySem PySem.Spec PyProof.Rows L2
/-! ### the text by places -/
def top (i : Nat) : Stmt := PySem.Challenge.pw_savedseats_k77_whole_sets_that_mend.main.body.getD i (.Pass ⟨0, 0, 0, 0⟩)
abbrev s_ascending : Stmt := top 23
abbrev s_check_places : Stmt := top 25
abbrev s_good_edge : Stmt := top 30
abbrev s_reached : Stmt := top 31
abbrev s_check_gate : Stmt := top 32
abbrev s_check_word : Stmt := top 37
abbrev s_good_price : Stmt := top 38
abbrev s_check_numbers : Stmt := top 39
abbrev s_replaced : Stmt := top 41
abbrev s_check_web : Stmt := top 43
abbrev s_ends_of_arc : Stmt := top 46
abbrev s_arcs : Stmt := top 47
abbrev s_way_back : Stmt := top 51
abbrev s_least : Stmt := top 52
abbrev s_good_name : Stmt := top 59
abbrev s_uses_of : Stmt := top 60
abbrev s_sum_or_none : Stmt := top 61
abbrev s_edited : Stmt := top 63
abbrev s_clash : Stmt := top 64
abbrev s_all_sets : Stmt := top 65
abbrev s_counts : Stmt := top 66
abbrev s_behind : Stmt := top 67
abbrev s_check_menu : Stmt := top 68
abbrev s_holds_one : Stmt := top 69
abbrev s_mending : Stmt := top 70
abbrev s_law_pool : Stmt := top 72
abbrev s_law_draw : Stmt := top 73
abbrev s_law_ahead : Stmt := top 74
abbrev s_law_web : Stmt := top 75
abbrev s_law_made : Stmt := top 76
abbrev s_law_gates : Stmt := top 77
abbrev s_law_marks : Stmt := top 78
abbrev s_law_some : Stmt := top 79
abbrev s_law_price : Stmt := top 80
abbrev s_law_prices : Stmt := top 81
abbrev s_law_cost : Stmt := top 82
abbrev s_law_lots : Stmt := top 83
abbrev s_law_least : Stmt := top 84
abbrev s_law_total : Stmt := top 85
abbrev s_law_seats : Stmt := top 86
abbrev s_law_edit : Stmt := top 87
abbrev s_law_edited : Stmt := top 88
abbrev s_law_same : Stmt := top 89
abbrev s_law_menu : Stmt := top 90
abbrev s_law_clash : Stmt := top 91
abbrev s_law_sets : Stmt := top 92
abbrev s_law_clashes : Stmt := top 93
abbrev s_law_holds : Stmt := top 94
abbrev s_law_behind : Stmt := top 95
abbrev s_law_due : Stmt := top 96
abbrev s_law_known_answers : Stmt := top 97
abbrev s_law : Stmt := top 98
abbrev s_Lot_init : Stmt := inClass (top 24) 0
abbrev s_Lot_len : Stmt := inClass (top 24) 1
abbrev s_Lot_iter : Stmt := inClass (top 24) 2
abbrev s_Lot_or : Stmt := inClass (top 24) 6
abbrev s_Lot_sub : Stmt := inClass (top 24) 8
abbrev s_Web_init : Stmt := inClass (top 33) 0
abbrev s_Web_check_idle : Stmt := inClass (top 33) 1
abbrev s_Web_eq : Stmt := inClass (top 33) 2
abbrev s_Web_ends : Stmt := inClass (top 33) 4
abbrev s_Prices_init : Stmt := inClass (top 42) 0
abbrev s_Prices_getitem : Stmt := inClass (top 42) 2
abbrev s_Prices_with_price : Stmt := inClass (top 42) 5
abbrev s_Least_init : Stmt := inClass (top 49) 0
abbrev s_Network_init : Stmt := inClass (top 50) 0
abbrev s_Network_free : Stmt := inClass (top 50) 1
abbrev s_Network_steps_from : Stmt := inClass (top 50) 2
abbrev s_Network_met_from : Stmt := inClass (top 50) 3
abbrev s_Network_path : Stmt := inClass (top 50) 4
abbrev s_Network_least_free : Stmt := inClass (top 50) 5
abbrev s_Network_fill : Stmt := inClass (top 50) 6
abbrev s_Network_barred_row : Stmt := inClass (top 50) 7
abbrev s_Network_value : Stmt := inClass (top 50) 8
abbrev s_Network_least_places : Stmt := inClass (top 50) 9
abbrev s_Task_init : Stmt := inClass (top 62) 0
abbrev s_Task_uses : Stmt := inClass (top 62) 2
abbrev s_Task_total : Stmt := inClass (top 62) 3
abbrev s_Task_with_uses : Stmt := inClass (top 62) 5
abbrev s_Web_gates : Stmt := inClass (top 33) 3
def lawIx : Nat := 98
def d_ascending : He.DefD := ⟨("ascending", none), "ascending", "ascending", defArgs s_ascending, defBody s_ascending, defScope s_ascending, [], []⟩
def d_check_places : He.DefD := ⟨("check_places", none), "check_places", "check_places", defArgs s_check_places, defBody s_check_places, defScope s_check_places, [], []⟩
def d_good_edge : He.DefD := ⟨("good_edge", none), "good_edge", "good_edge", defArgs s_good_edge, defBody s_good_edge, defScope s_good_edge, [], []⟩
def d_reached : He.DefD := ⟨("reached", none), "reached", "reached", defArgs s_reached, defBody s_reached, defScope s_reached, [], []⟩
def d_check_gate : He.DefD := ⟨("check_gate", none), "check_gate", "check_gate", defArgs s_check_gate, defBody s_check_gate, defScope s_check_gate, [], []⟩
def d_check_word : He.DefD := ⟨("check_word", none), "check_word", "check_word", defArgs s_check_word, defBody s_check_word, defScope s_check_word, [], []⟩
def d_good_price : He.DefD := ⟨("good_price", none), "good_price", "good_price", defArgs s_good_price, defBody s_good_price, defScope s_good_price, [], []⟩
def d_check_numbers : He.DefD := ⟨("check_numbers", none), "check_numbers", "check_numbers", defArgs s_check_numbers, defBody s_check_numbers, defScope s_check_numbers, [], []⟩
def d_replaced : He.DefD := ⟨("replaced", none), "replaced", "replaced", defArgs s_replaced, defBody s_replaced, defScope s_replaced, [], []⟩
def d_check_web : He.DefD := ⟨("check_web", none), "check_web", "check_web", defArgs s_check_web, defBody s_check_web, defScope s_check_web, [], []⟩
def d_ends_of_arc : He.DefD := ⟨("ends_of_arc", none), "ends_of_arc", "ends_of_arc", defArgs s_ends_of_arc, defBody s_ends_of_arc, defScope s_ends_of_arc, [], []⟩
def d_arcs : He.DefD := ⟨("arcs", none), "arcs", "arcs", defArgs s_arcs, defBody s_arcs, defScope s_arcs, [], []⟩
def d_way_back : He.DefD := ⟨("way_back", none), "way_back", "way_back", defArgs s_way_back, defBody s_way_back, defScope s_way_back, [], []⟩
def d_least : He.DefD := ⟨("least", none), "least", "least", defArgs s_least, defBody s_least, defScope s_least, [], []⟩
def d_good_name : He.DefD := ⟨("good_name", none), "good_name", "good_name", defArgs s_good_name, defBody s_good_name, defScope s_good_name, [], []⟩
def d_uses_of : He.DefD := ⟨("uses_of", none), "uses_of", "uses_of", defArgs s_uses_of, defBody s_uses_of, defScope s_uses_of, [], []⟩
def d_sum_or_none : He.DefD := ⟨("sum_or_none", none), "sum_or_none", "sum_or_none", defArgs s_sum_or_none, defBody s_sum_or_none, defScope s_sum_or_none, [], []⟩
def d_edited : He.DefD := ⟨("edited", none), "edited", "edited", defArgs s_edited, defBody s_edited, defScope s_edited, [], []⟩
def d_clash : He.DefD := ⟨("clash", none), "clash", "clash", defArgs s_clash, defBody s_clash, defScope s_clash, [], []⟩
def d_all_sets : He.DefD := ⟨("all_sets", none), "all_sets", "all_sets", defArgs s_all_sets, defBody s_all_sets, defScope s_all_sets, [.int 0], []⟩
def d_counts : He.DefD := ⟨("counts", none), "counts", "counts", defArgs s_counts, defBody s_counts, defScope s_counts, [], []⟩
def d_behind : He.DefD := ⟨("behind", none), "behind", "behind", defArgs s_behind, defBody s_behind, defScope s_behind, [], []⟩
def d_check_menu : He.DefD := ⟨("check_menu", none), "check_menu", "check_menu", defArgs s_check_menu, defBody s_check_menu, defScope s_check_menu, [], []⟩
def d_holds_one : He.DefD := ⟨("holds_one", none), "holds_one", "holds_one", defArgs s_holds_one, defBody s_holds_one, defScope s_holds_one, [], []⟩
def d_mending : He.DefD := ⟨("mending", none), "mending", "mending", defArgs s_mending, defBody s_mending, defScope s_mending, [], []⟩
def d_law_pool : He.DefD := ⟨("_law_pool", none), "_law_pool", "_law_pool", defArgs s_law_pool, defBody s_law_pool, defScope s_law_pool, [], []⟩
def d_law_draw : He.DefD := ⟨("_law_draw", none), "_law_draw", "_law_draw", defArgs s_law_draw, defBody s_law_draw, defScope s_law_draw, [], []⟩
def d_law_ahead : He.DefD := ⟨("_law_ahead", none), "_law_ahead", "_law_ahead", defArgs s_law_ahead, defBody s_law_ahead, defScope s_law_ahead, [], []⟩
def d_law_web : He.DefD := ⟨("_law_web", none), "_law_web", "_law_web", defArgs s_law_web, defBody s_law_web, defScope s_law_web, [], []⟩
def d_law_made : He.DefD := ⟨("_law_made", none), "_law_made", "_law_made", defArgs s_law_made, defBody s_law_made, defScope s_law_made, [], []⟩
def d_law_gates : He.DefD := ⟨("_law_gates", none), "_law_gates", "_law_gates", defArgs s_law_gates, defBody s_law_gates, defScope s_law_gates, [], []⟩
def d_law_marks : He.DefD := ⟨("_law_marks", none), "_law_marks", "_law_marks", defArgs s_law_marks, defBody s_law_marks, defScope s_law_marks, [], []⟩
def d_law_some : He.DefD := ⟨("_law_some", none), "_law_some", "_law_some", defArgs s_law_some, defBody s_law_some, defScope s_law_some, [], []⟩
def d_law_price : He.DefD := ⟨("_law_price", none), "_law_price", "_law_price", defArgs s_law_price, defBody s_law_price, defScope s_law_price, [], []⟩
def d_law_prices : He.DefD := ⟨("_law_prices", none), "_law_prices", "_law_prices", defArgs s_law_prices, defBody s_law_prices, defScope s_law_prices, [], []⟩
def d_law_cost : He.DefD := ⟨("_law_cost", none), "_law_cost", "_law_cost", defArgs s_law_cost, defBody s_law_cost, defScope s_law_cost, [], []⟩
def d_law_lots : He.DefD := ⟨("_law_lots", none), "_law_lots", "_law_lots", defArgs s_law_lots, defBody s_law_lots, defScope s_law_lots, [], []⟩
def d_law_least : He.DefD := ⟨("_law_least", none), "_law_least", "_law_least", defArgs s_law_least, defBody s_law_least, defScope s_law_least, [], []⟩
def d_law_total : He.DefD := ⟨("_law_total", none), "_law_total", "_law_total", defArgs s_law_total, defBody s_law_total, defScope s_law_total, [], []⟩
def d_law_seats : He.DefD := ⟨("_law_seats", none), "_law_seats", "_law_seats", defArgs s_law_seats, defBody s_law_seats, defScope s_law_seats, [], []⟩
def d_law_edit : He.DefD := ⟨("_law_edit", none), "_law_edit", "_law_edit", defArgs s_law_edit, defBody s_law_edit, defScope s_law_edit, [], []⟩
def d_law_edited : He.DefD := ⟨("_law_edited", none), "_law_edited", "_law_edited", defArgs s_law_edited, defBody s_law_edited, defScope s_law_edited, [], []⟩
def d_law_same : He.DefD := ⟨("_law_same", none), "_law_same", "_law_same", defArgs s_law_same, defBody s_law_same, defScope s_law_same, [], []⟩
def d_law_menu : He.DefD := ⟨("_law_menu", none), "_law_menu", "_law_menu", defArgs s_law_menu, defBody s_law_menu, defScope s_law_menu, [], []⟩
def d_law_clash : He.DefD := ⟨("_law_clash", none), "_law_clash", "_law_clash", defArgs s_law_clash, defBody s_law_clash, defScope s_law_clash, [], []⟩
def d_law_sets : He.DefD := ⟨("_law_sets", none), "_law_sets", "_law_sets", defArgs s_law_sets, defBody s_law_sets, defScope s_law_sets, [], []⟩
def d_law_clashes : He.DefD := ⟨("_law_clashes", none), "_law_clashes", "_law_clashes", defArgs s_law_clashes, defBody s_law_clashes, defScope s_law_clashes, [], []⟩
def d_law_holds : He.DefD := ⟨("_law_holds", none), "_law_holds", "_law_holds", defArgs s_law_holds, defBody s_law_holds, defScope s_law_holds, [], []⟩
def d_law_behind : He.DefD := ⟨("_law_behind", none), "_law_behind", "_law_behind", defArgs s_law_behind, defBody s_law_behind, defScope s_law_behind, [], []⟩
def d_law_due : He.DefD := ⟨("_law_due", none), "_law_due", "_law_due", defArgs s_law_due, defBody s_law_due, defScope s_law_due, [], []⟩
def d_law_known_answers : He.DefD := ⟨("_law_known_answers", none), "_law_known_answers", "_law_known_answers", defArgs s_law_known_answers, defBody s_law_known_answers, defScope s_law_known_answers, [], []⟩
def d_law : He.DefD := ⟨("law", none), "law", "law", defArgs s_law, defBody s_law, defScope s_law, [], []⟩
def d_Lot_init : He.DefD := ⟨("Lot", some "__init__"), "__init__", "Lot.__init__", defArgs s_Lot_init, defBody s_Lot_init, defScope s_Lot_init, [], []⟩
def d_Lot_len : He.DefD := ⟨("Lot", some "__len__"), "__len__", "Lot.__len__", defArgs s_Lot_len, defBody s_Lot_len, defScope s_Lot_len, [], []⟩
def d_Lot_iter : He.DefD := ⟨("Lot", some "__iter__"), "__iter__", "Lot.__iter__", defArgs s_Lot_iter, defBody s_Lot_iter, defScope s_Lot_iter, [], []⟩
def d_Lot_or : He.DefD := ⟨("Lot", some "__or__"), "__or__", "Lot.__or__", defArgs s_Lot_or, defBody s_Lot_or, defScope s_Lot_or, [], []⟩
def d_Lot_sub : He.DefD := ⟨("Lot", some "__sub__"), "__sub__", "Lot.__sub__", defArgs s_Lot_sub, defBody s_Lot_sub, defScope s_Lot_sub, [], []⟩
def d_Web_init : He.DefD := ⟨("Web", some "__init__"), "__init__", "Web.__init__", defArgs s_Web_init, defBody s_Web_init, defScope s_Web_init, [], []⟩
def d_Web_check_idle : He.DefD := ⟨("Web", some "check_idle"), "check_idle", "Web.check_idle", defArgs s_Web_check_idle, defBody s_Web_check_idle, defScope s_Web_check_idle, [], []⟩
def d_Web_eq : He.DefD := ⟨("Web", some "__eq__"), "__eq__", "Web.__eq__", defArgs s_Web_eq, defBody s_Web_eq, defScope s_Web_eq, [], []⟩
def d_Web_ends : He.DefD := ⟨("Web", some "ends"), "ends", "Web.ends", defArgs s_Web_ends, defBody s_Web_ends, defScope s_Web_ends, [], []⟩
def d_Prices_init : He.DefD := ⟨("Prices", some "__init__"), "__init__", "Prices.__init__", defArgs s_Prices_init, defBody s_Prices_init, defScope s_Prices_init, [], []⟩
def d_Prices_getitem : He.DefD := ⟨("Prices", some "__getitem__"), "__getitem__", "Prices.__getitem__", defArgs s_Prices_getitem, defBody s_Prices_getitem, defScope s_Prices_getitem, [], []⟩
def d_Prices_with_price : He.DefD := ⟨("Prices", some "with_price"), "with_price", "Prices.with_price", defArgs s_Prices_with_price, defBody s_Prices_with_price, defScope s_Prices_with_price, [], []⟩
def d_Least_init : He.DefD := ⟨("Least", some "__init__"), "__init__", "Least.__init__", defArgs s_Least_init, defBody s_Least_init, defScope s_Least_init, [], []⟩
def d_Network_init : He.DefD := ⟨("Network", some "__init__"), "__init__", "Network.__init__", defArgs s_Network_init, defBody s_Network_init, defScope s_Network_init, [], []⟩
def d_Network_free : He.DefD := ⟨("Network", some "free"), "free", "Network.free", defArgs s_Network_free, defBody s_Network_free, defScope s_Network_free, [], []⟩
def d_Network_steps_from : He.DefD := ⟨("Network", some "steps_from"), "steps_from", "Network.steps_from", defArgs s_Network_steps_from, defBody s_Network_steps_from, defScope s_Network_steps_from, [], []⟩
def d_Network_met_from : He.DefD := ⟨("Network", some "met_from"), "met_from", "Network.met_from", defArgs s_Network_met_from, defBody s_Network_met_from, defScope s_Network_met_from, [], []⟩
def d_Network_path : He.DefD := ⟨("Network", some "path"), "path", "Network.path", defArgs s_Network_path, defBody s_Network_path, defScope s_Network_path, [], []⟩
def d_Network_least_free : He.DefD := ⟨("Network", some "least_free"), "least_free", "Network.least_free", defArgs s_Network_least_free, defBody s_Network_least_free, defScope s_Network_least_free, [], []⟩
def d_Network_fill : He.DefD := ⟨("Network", some "fill"), "fill", "Network.fill", defArgs s_Network_fill, defBody s_Network_fill, defScope s_Network_fill, [], []⟩
def d_Network_barred_row : He.DefD := ⟨("Network", some "barred_row"), "barred_row", "Network.barred_row", defArgs s_Network_barred_row, defBody s_Network_barred_row, defScope s_Network_barred_row, [], []⟩
def d_Network_value : He.DefD := ⟨("Network", some "value"), "value", "Network.value", defArgs s_Network_value, defBody s_Network_value, defScope s_Network_value, [], []⟩
def d_Network_least_places : He.DefD := ⟨("Network", some "least_places"), "least_places", "Network.least_places", defArgs s_Network_least_places, defBody s_Network_least_places, defScope s_Network_least_places, [], []⟩
def d_Task_init : He.DefD := ⟨("Task", some "__init__"), "__init__", "Task.__init__", defArgs s_Task_init, defBody s_Task_init, defScope s_Task_init, [], []⟩
def d_Task_uses : He.DefD := ⟨("Task", some "uses"), "uses", "Task.uses", defArgs s_Task_uses, defBody s_Task_uses, defScope s_Task_uses, [], []⟩
def d_Task_total : He.DefD := ⟨("Task", some "total"), "total", "Task.total", defArgs s_Task_total, defBody s_Task_total, defScope s_Task_total, [], []⟩
def d_Task_with_uses : He.DefD := ⟨("Task", some "with_uses"), "with_uses", "Task.with_uses", defArgs s_Task_with_uses, defBody s_Task_with_uses, defScope s_Task_with_uses, [], []⟩
def fn0 : List He.DefD := [d_ascending, d_check_places, d_good_edge, d_reached, d_check_gate, d_check_word, d_good_price, d_check_numbers, d_replaced, d_check_web, d_ends_of_arc, d_arcs]
def fn1 : List He.DefD := [d_way_back, d_least, d_good_name, d_uses_of, d_sum_or_none, d_edited, d_clash, d_all_sets, d_counts, d_behind, d_check_menu, d_holds_one]
def fn2 : List He.DefD := [d_mending, d_law_pool, d_law_draw, d_law_ahead, d_law_web, d_law_made, d_law_gates, d_law_marks, d_law_some, d_law_price, d_law_prices, d_law_cost]
def fn3 : List He.DefD := [d_law_lots, d_law_least, d_law_total, d_law_seats, d_law_edit, d_law_edited, d_law_same, d_law_menu, d_law_clash, d_law_sets, d_law_clashes, d_law_holds]
def fn4 : List He.DefD := [d_law_behind, d_law_due, d_law_known_answers, d_law, d_Lot_init, d_Lot_len, d_Lot_iter, d_Lot_or, d_Lot_sub, d_Web_init, d_Web_check_idle, d_Web_eq]
def fn5 : List He.DefD := [d_Web_ends, d_Prices_init, d_Prices_getitem, d_Prices_with_price, d_Least_init, d_Network_init, d_Network_free, d_Network_steps_from, d_Network_met_from, d_Network_path, d_Network_least_free, d_Network_fill]
def fn6 : List He.DefD := [d_Network_barred_row, d_Network_value, d_Network_least_places, d_Task_init, d_Task_uses, d_Task_total, d_Task_with_uses]
def fn : List He.DefD := fn0 ++ fn1 ++ fn2 ++ fn3 ++ fn4 ++ fn5 ++ fn6
def fa0 : List He.Fa := [.glo "ascending", .glo "check_places", .glo "good_edge", .glo "reached", .glo "check_gate", .glo "check_word", .glo "good_price", .glo "check_numbers", .glo "replaced", .glo "check_web", .glo "ends_of_arc", .glo "arcs", .glo "way_back", .glo "least", .glo "good_name", .glo "uses_of"]
def fa1 : List He.Fa := [.glo "sum_or_none", .glo "edited", .glo "clash", .glo "all_sets", .glo "counts", .glo "behind", .glo "check_menu", .glo "holds_one", .glo "mending", .glo "_law_pool", .glo "_law_draw", .glo "_law_ahead", .glo "_law_web", .glo "_law_made", .glo "_law_gates", .glo "_law_marks"]
def fa2 : List He.Fa := [.glo "_law_some", .glo "_law_price", .glo "_law_prices", .glo "_law_cost", .glo "_law_lots", .glo "_law_least", .glo "_law_total", .glo "_law_seats", .glo "_law_edit", .glo "_law_edited", .glo "_law_same", .glo "_law_menu", .glo "_law_clash", .glo "_law_sets", .glo "_law_clashes", .glo "_law_holds"]
def fa3 : List He.Fa := [.glo "_law_behind", .glo "_law_due", .glo "_law_known_answers", .glo "law", .glo "Lot", .glo "Web", .glo "Prices", .glo "Least", .glo "Network", .glo "Task", .glo "WORDS", .glo "SHAPES", .free "tuple", .free "sorted", .free "int", .free "len"]
def fa4 : List He.Fa := [.free "iter", .free "isinstance", .free "all", .free "list", .free "range", .free "enumerate", .free "sum", .free "min", .free "str", .free "any", .free "abs", .free "dict", .int "MOST_PLACES" (24), .int "MOST_EDGES" (80), .int "OUTSIDE_webs" (-1), .int "MOST" (100000)]
def fa5 : List He.Fa := [.int "OUTSIDE_flows" (-1), .int "MOST_SEATS" (4), .int "MOST_LETTERS" (8), .int "MOST_EDITS" (6), .str "LETTERS" "abcdefghijklmnopqrstuvwxyz", .cls "Lot", .mkr "Lot", .noat "Lot" "places", .meth "Lot" "__init__", .meth "Lot" "__len__", .meth "Lot" "__iter__", .meth "Lot" "__or__", .meth "Lot" "__sub__", .cls "Web", .mkr "Web", .noat "Web" "places"]
def fa6 : List He.Fa := [.noat "Web" "edges", .noat "Web" "entry", .noat "Web" "exits", .meth "Web" "__init__", .meth "Web" "check_idle", .meth "Web" "__eq__", .meth "Web" "ends", .cls "Prices", .mkr "Prices", .noat "Prices" "web", .noat "Prices" "saves", .noat "Prices" "backs", .meth "Prices" "__init__", .meth "Prices" "__getitem__", .meth "Prices" "with_price", .cls "Least"]
def fa7 : List He.Fa := [.mkr "Least", .noat "Least" "cost", .noat "Least" "lot", .noat "Least" "flow", .noat "Least" "row", .meth "Least" "__init__", .cls "Network", .mkr "Network", .noat "Network" "sources", .noat "Network" "sinks", .noat "Network" "places", .noat "Network" "rooms", .noat "Network" "tips", .noat "Network" "numbers", .meth "Network" "__init__", .meth "Network" "free"]
def fa8 : List He.Fa := [.meth "Network" "steps_from", .meth "Network" "met_from", .meth "Network" "path", .meth "Network" "least_free", .meth "Network" "fill", .meth "Network" "barred_row", .meth "Network" "value", .meth "Network" "least_places", .cls "Task", .mkr "Task", .noat "Task" "web", .noat "Task" "seats", .noat "Task" "prices", .meth "Task" "__init__", .meth "Task" "uses", .meth "Task" "total"]
def fa9 : List He.Fa := [.meth "Task" "with_uses"]
def fa : List He.Fa := fa0 ++ fa1 ++ fa2 ++ fa3 ++ fa4 ++ fa5 ++ fa6 ++ fa7 ++ fa8 ++ fa9
def lo0 : List PySem.Str := ["_wall", "SeatError", "BadPlaces", "BadEdges", "BadEdge", "BadEntry", "NoExits", "BadExit", "Idle", "NoGate", "BadPlace", "BadLength", "BadPrice", "BadWord", "OtherWeb", "BadSeats", "BadName", "NoSeat", "BadEdit", "BadMenu", "TwiceInMenu", "ascending", "Lot", "check_places", "MOST_PLACES", "MOST_EDGES", "OUTSIDE_webs", "good_edge", "reached", "check_gate"]
def lo1 : List PySem.Str := ["Web", "WORDS", "MOST", "check_word", "good_price", "check_numbers", "added", "replaced", "Prices", "check_web", "OUTSIDE_flows", "ends_of_arc", "arcs", "Least", "Network", "way_back", "least", "MOST_SEATS", "MOST_LETTERS", "MOST_EDITS", "LETTERS", "SHAPES", "good_name", "uses_of", "sum_or_none", "Task", "edited", "clash", "all_sets", "counts"]
def lo2 : List PySem.Str := ["behind", "check_menu", "holds_one", "mending", "_law_pool", "_law_draw", "_law_ahead", "_law_web", "_law_made", "_law_gates", "_law_marks", "_law_some", "_law_price", "_law_prices", "_law_cost", "_law_lots", "_law_least", "_law_total", "_law_seats", "_law_edit", "_law_edited", "_law_same", "_law_menu", "_law_clash", "_law_sets", "_law_clashes", "_law_holds", "_law_behind", "_law_due", "_law_known_answers"]
def loose : List PySem.Str := lo0 ++ lo1 ++ lo2
/-! ### the part of the heap that is looked at -/
def valsAt (g : Addr → Option Obj) (a : Addr) : List Addr := match g a with
  | some ⟨_, _, .dict es _, _⟩ => es.toList.flatMap fun e => He.refV e.val
  | _ => []
def nsAt (g : Addr → Option Obj) (a : Addr) : List Addr := match g a with
  | some ⟨_, _, .cls cd, _⟩ => [cd.ns]
  | _ => []
def codeAt (g : Addr → Option Obj) (a : Addr) : List Addr := match g a with
  | some ⟨_, _, .func fd, _⟩ => He.refV fd.code ++ He.refV fd.defaults
  | _ => []
def seqAt (g : Addr → Option Obj) (a : Addr) : List Addr := match g a with
  | some ⟨_, _, .seq its _, _⟩ => its.toList.flatMap He.refV
  | _ => []
def getAt (g : Addr → Option Obj) (a : Addr) : List Addr := match g a with
  | some ⟨.type c, _, .fields vs, _⟩ => if c == "property" then vs.toList.flatMap He.refV else []
  | _ => []
def fiveAt (g : Addr → Option Obj) (l : List Addr) (l3 : List Addr) (l5 : List Addr) : List Addr := l ++ l3 ++ l5 ++ (l ++ l3 ++ l5).flatMap (codeAt g)
def ownCls : List Str := ["Lot", "Web", "Prices", "Least", "Network", "Task"]
def gaG (g : Addr → Option Obj) (x : Str) : Addr := match g mainGlobals with
  | some ⟨_, _, .dict es _, _⟩ => (match es.toList.find? (·.key.isStr x) with
    | some e => (match e.val with
      | .ref a => a
      | _ => 0)
    | none => 0)
  | _ => 0
def asM3 (g : Addr → Option Obj) (l1 l2 : List Addr) : List Addr := mainGlobals :: (l2 ++ fiveAt g l1 (l2.flatMap (valsAt g)) ((l2.flatMap (valsAt g)).flatMap (getAt g) ++ l1.flatMap (seqAt g)))
def asM (g : Addr → Option Obj) : List Addr := asM3 g (valsAt g mainGlobals) ((ownCls.map (gaG g)).flatMap (nsAt g))
def propAd (K : PySem.W.Frag) : Addr := He.ma K (He.ga K "Web") "gates"
def getterAd (K : PySem.W.Frag) : Addr := match PySem.W.recIn K (propAd K) "property" with
  | some (.ref g :: _) => g
  | _ => 0
def isRefAt (K : PySem.W.Frag) (p : Addr) : Bool := match PySem.W.recIn K p "property" with
  | some (.ref _ :: _) => true
  | _ => false
def itemAd (x : Str) (i : Nat) (K : PySem.W.Frag) : Addr := match K.lookup (He.ga K x) with
  | some ⟨_, _, .seq its _, _⟩ => (match its.toList[i]? with
    | some (.ref a) => a
    | _ => 0)
  | _ => 0
def tupA (K : PySem.W.Frag) (a : Addr) (vs : List V) : Bool := match K.lookup a with
  | some ⟨.type c, _, .seq its _, _⟩ => decide (c = "tuple") && (decide (its.size ≤ sizeLine) && He.relAll vs its.toList)
  | _ => false
def insB (K : PySem.W.Frag) (C : Addr) : Bool := decide (PySem.W.findIn K (.ref C) "__class__" = some (some (.builtin "object.__class__"))) &&
  (decide (PySem.W.specialIn K (.builtin "object.__class__") "__get__" = some (some (.builtin "getset_descriptor.__get__"))) && (decide (PySem.W.takesIn K (.builtin "object.__class__") = some true) &&
  (decide (PySem.W.mroIn K C (.type "object") = some true) && decide (PySem.W.kitOne K (.ref C) (.ref C) = some true))))
def exM (K : PySem.W.Frag) : List Bool := [isRefAt K (propAd K),
  decide (PySem.W.findIn K (.ref (He.ga K "Web")) "gates" = some (some (.ref (propAd K)))),
  decide (PySem.W.specialIn K (.ref (propAd K)) "__get__" = some (some (.builtin "property.__get__"))),
  decide (PySem.W.takesIn K (.ref (propAd K)) = some true),
  insB K (He.ga K "Web"),
  tupA K (He.ga K "WORDS") [.str "save", .str "back"],
  tupA K (He.ga K "SHAPES") [.ref (itemAd "SHAPES" 0 K), .ref (itemAd "SHAPES" 1 K), .ref (itemAd "SHAPES" 2 K)],
  tupA K (itemAd "SHAPES" 0 K) [.str "use", .int 3], tupA K (itemAd "SHAPES" 1 K) [.str "free", .int 3], tupA K (itemAd "SHAPES" 2 K) [.str "price", .int 4],
  PySem.W.selfFirst K (He.ga K "Lot")]
/-! ### the Hook -/
abbrev AlM : Type := He.AlD × List Bool × He.FnW
def fnWA (K : PySem.W.Frag) (a : Addr) : He.FnW := match K.lookup a with
  | some ⟨_, _, .func fd, _⟩ => some (fd.name, fd.qualname, fd.params, fd.body, fd.scope, fd.globals, fd.closure, fd.builtins)
  | _ => none
def codeOk (K : PySem.W.Frag) (a : Addr) (q : Str) : Bool := PySem.W.keepIn K (.ref a) && (match K.lookup a with
  | some ⟨_, _, .func fd, _⟩ => PySem.W.codeIn K fd.code q && He.dflB K fd.defaults []
  | _ => false)
def obsM (K : PySem.W.Frag) : AlM := (He.obsD fa fn K, codeOk K (getterAd K) "Web.gates" :: exM K, fnWA K (getterAd K))
def gateW : He.FnW := some ("gates", "Web.gates", defArgs s_Web_gates, .stmts (defBody s_Web_gates), defScope s_Web_gates, mainGlobals, [], builtinsNs)
def valM : AlM := (He.valD fn, [true, true, true, true, true, true, true, true, true, true, true, true], gateW)
def SaysM (K : PySem.W.Frag) : Prop := obsM K = valM
def obsMG (g : Addr → Option Obj) : AlM := obsM (He.frG g (asM g))
def hk : PySem.W.Hook where
  α := AlM
  obs := fun s => obsMG s.heap.get?
  val := fun _ => valM
  says := fun _ h => ∃ K : PySem.W.Frag, K.In h ∧ SaysM K
  of := fun _ _ e => ⟨_, He.frG_in, e⟩
  keeps := fun _ _ _ ⟨K, hK, c⟩ k => ⟨K, PySem.W.Frag.In.keeps hK k, c⟩
def ob (s : PySem.W.SharedT) : AlM := obsMG (HandSHeadRun.getT s)
theorem ob_eq (s : PySem.W.SharedT) : ob s = hk.obs s.abs := by
  have e : HandSHeadRun.getT s = s.abs.heap.get? := funext (HandSHeadRun.getT_eq s)
  show obsMG (HandSHeadRun.getT s) = obsMG s.abs.heap.get?
  rw [e]
end Sv
namespace Sv
open PySem PySem.Spec PyProof.Rows L2
abbrev R : PySem.W.OpenRow := PySem.W.OpenLaw.row PySem.Challenge.rw_savedseats_k77_whole_sets_that_mend
theorem run (w : World) : HandSHeadRun.RunEq R (PySem.W.view R.prog [98]) hk ob 40000 loose w := by
  intro os
  kernel_rfl
end Sv
namespace Sv
open PySem PySem.Spec PyProof.Rows L2
/-! ### what the walks ask of the text: by names -/
structure Txt (K : PySem.W.Frag) (mg : Str → Option Value) : Prop where
  says : SaysM K
  mgl : ∀ {x : Str}, (He.Fa.glo x).ok K = true → mg x = some (.ref (He.ga K x))
  mfr : ∀ {x : Str}, (He.Fa.free x).ok K = true → mg x = none
  mint : ∀ {x : Str} {i : Int}, (He.Fa.int x i).ok K = true → ∃ t, mg x = some (.int i t)
  mstr : ∀ {x z : Str}, (He.Fa.str x z).ok K = true → ∃ t, mg x = some (.str z t)
theorem txt_of {K : PySem.W.Frag} {h : Heap} {mg : Str → Option Value} (X : K.In h) (G : h.Ns mainGlobals mg) (c : SaysM K) : Txt K mg := ⟨c, fun z => He.glo_ok X G z, fun z => He.free_ok X G z, fun z => He.int_ok X G z, fun z => He.str_ok X G z⟩
section
variable {K : PySem.W.Frag} {mg : Str → Option Value}
theorem Txt.d (T : Txt K mg) : He.SaysD fa fn K := congrArg (fun z : AlM => z.1) T.says
theorem Txt.ex (T : Txt K mg) : codeOk K (getterAd K) "Web.gates" :: exM K = [true, true, true, true, true, true, true, true, true, true, true, true] := congrArg (fun z : AlM => z.2.1) T.says
theorem Txt.gw (T : Txt K mg) : fnWA K (getterAd K) = gateW := congrArg (fun z : AlM => z.2.2) T.says
theorem Txt.g_ascending (T : Txt K mg) : mg "ascending" = some (.ref (He.ga K "ascending")) := T.mgl (T.d.fact 0 (f := .glo "ascending") rfl)
theorem Txt.g_check_places (T : Txt K mg) : mg "check_places" = some (.ref (He.ga K "check_places")) := T.mgl (T.d.fact 1 (f := .glo "check_places") rfl)
theorem Txt.g_good_edge (T : Txt K mg) : mg "good_edge" = some (.ref (He.ga K "good_edge")) := T.mgl (T.d.fact 2 (f := .glo "good_edge") rfl)
theorem Txt.g_reached (T : Txt K mg) : mg "reached" = some (.ref (He.ga K "reached")) := T.mgl (T.d.fact 3 (f := .glo "reached") rfl)
theorem Txt.g_check_gate (T : Txt K mg) : mg "check_gate" = some (.ref (He.ga K "check_gate")) := T.mgl (T.d.fact 4 (f := .glo "check_gate") rfl)
theorem Txt.g_check_word (T : Txt K mg) : mg "check_word" = some (.ref (He.ga K "check_word")) := T.mgl (T.d.fact 5 (f := .glo "check_word") rfl)
theorem Txt.g_good_price (T : Txt K mg) : mg "good_price" = some (.ref (He.ga K "good_price")) := T.mgl (T.d.fact 6 (f := .glo "good_price") rfl)
theorem Txt.g_check_numbers (T : Txt K mg) : mg "check_numbers" = some (.ref (He.ga K "check_numbers")) := T.mgl (T.d.fact 7 (f := .glo "check_numbers") rfl)
theorem Txt.g_replaced (T : Txt K mg) : mg "replaced" = some (.ref (He.ga K "replaced")) := T.mgl (T.d.fact 8 (f := .glo "replaced") rfl)
theorem Txt.g_check_web (T : Txt K mg) : mg "check_web" = some (.ref (He.ga K "check_web")) := T.mgl (T.d.fact 9 (f := .glo "check_web") rfl)
theorem Txt.g_ends_of_arc (T : Txt K mg) : mg "ends_of_arc" = some (.ref (He.ga K "ends_of_arc")) := T.mgl (T.d.fact 10 (f := .glo "ends_of_arc") rfl)
theorem Txt.g_arcs (T : Txt K mg) : mg "arcs" = some (.ref (He.ga K "arcs")) := T.mgl (T.d.fact 11 (f := .glo "arcs") rfl)
theorem Txt.g_way_back (T : Txt K mg) : mg "way_back" = some (.ref (He.ga K "way_back")) := T.mgl (T.d.fact 12 (f := .glo "way_back") rfl)
theorem Txt.g_least (T : Txt K mg) : mg "least" = some (.ref (He.ga K "least")) := T.mgl (T.d.fact 13 (f := .glo "least") rfl)
theorem Txt.g_good_name (T : Txt K mg) : mg "good_name" = some (.ref (He.ga K "good_name")) := T.mgl (T.d.fact 14 (f := .glo "good_name") rfl)
theorem Txt.g_uses_of (T : Txt K mg) : mg "uses_of" = some (.ref (He.ga K "uses_of")) := T.mgl (T.d.fact 15 (f := .glo "uses_of") rfl)
theorem Txt.g_sum_or_none (T : Txt K mg) : mg "sum_or_none" = some (.ref (He.ga K "sum_or_none")) := T.mgl (T.d.fact 16 (f := .glo "sum_or_none") rfl)
theorem Txt.g_edited (T : Txt K mg) : mg "edited" = some (.ref (He.ga K "edited")) := T.mgl (T.d.fact 17 (f := .glo "edited") rfl)
theorem Txt.g_clash (T : Txt K mg) : mg "clash" = some (.ref (He.ga K "clash")) := T.mgl (T.d.fact 18 (f := .glo "clash") rfl)
theorem Txt.g_all_sets (T : Txt K mg) : mg "all_sets" = some (.ref (He.ga K "all_sets")) := T.mgl (T.d.fact 19 (f := .glo "all_sets") rfl)
theorem Txt.g_counts (T : Txt K mg) : mg "counts" = some (.ref (He.ga K "counts")) := T.mgl (T.d.fact 20 (f := .glo "counts") rfl)
theorem Txt.g_behind (T : Txt K mg) : mg "behind" = some (.ref (He.ga K "behind")) := T.mgl (T.d.fact 21 (f := .glo "behind") rfl)
theorem Txt.g_check_menu (T : Txt K mg) : mg "check_menu" = some (.ref (He.ga K "check_menu")) := T.mgl (T.d.fact 22 (f := .glo "check_menu") rfl)
theorem Txt.g_holds_one (T : Txt K mg) : mg "holds_one" = some (.ref (He.ga K "holds_one")) := T.mgl (T.d.fact 23 (f := .glo "holds_one") rfl)
theorem Txt.g_mending (T : Txt K mg) : mg "mending" = some (.ref (He.ga K "mending")) := T.mgl (T.d.fact 24 (f := .glo "mending") rfl)
theorem Txt.g_law_pool (T : Txt K mg) : mg "_law_pool" = some (.ref (He.ga K "_law_pool")) := T.mgl (T.d.fact 25 (f := .glo "_law_pool") rfl)
theorem Txt.g_law_draw (T : Txt K mg) : mg "_law_draw" = some (.ref (He.ga K "_law_draw")) := T.mgl (T.d.fact 26 (f := .glo "_law_draw") rfl)
theorem Txt.g_law_ahead (T : Txt K mg) : mg "_law_ahead" = some (.ref (He.ga K "_law_ahead")) := T.mgl (T.d.fact 27 (f := .glo "_law_ahead") rfl)
theorem Txt.g_law_web (T : Txt K mg) : mg "_law_web" = some (.ref (He.ga K "_law_web")) := T.mgl (T.d.fact 28 (f := .glo "_law_web") rfl)
theorem Txt.g_law_made (T : Txt K mg) : mg "_law_made" = some (.ref (He.ga K "_law_made")) := T.mgl (T.d.fact 29 (f := .glo "_law_made") rfl)
theorem Txt.g_law_gates (T : Txt K mg) : mg "_law_gates" = some (.ref (He.ga K "_law_gates")) := T.mgl (T.d.fact 30 (f := .glo "_law_gates") rfl)
theorem Txt.g_law_marks (T : Txt K mg) : mg "_law_marks" = some (.ref (He.ga K "_law_marks")) := T.mgl (T.d.fact 31 (f := .glo "_law_marks") rfl)
theorem Txt.g_law_some (T : Txt K mg) : mg "_law_some" = some (.ref (He.ga K "_law_some")) := T.mgl (T.d.fact 32 (f := .glo "_law_some") rfl)
theorem Txt.g_law_price (T : Txt K mg) : mg "_law_price" = some (.ref (He.ga K "_law_price")) := T.mgl (T.d.fact 33 (f := .glo "_law_price") rfl)
theorem Txt.g_law_prices (T : Txt K mg) : mg "_law_prices" = some (.ref (He.ga K "_law_prices")) := T.mgl (T.d.fact 34 (f := .glo "_law_prices") rfl)
theorem Txt.g_law_cost (T : Txt K mg) : mg "_law_cost" = some (.ref (He.ga K "_law_cost")) := T.mgl (T.d.fact 35 (f := .glo "_law_cost") rfl)
theorem Txt.g_law_lots (T : Txt K mg) : mg "_law_lots" = some (.ref (He.ga K "_law_lots")) := T.mgl (T.d.fact 36 (f := .glo "_law_lots") rfl)
theorem Txt.g_law_least (T : Txt K mg) : mg "_law_least" = some (.ref (He.ga K "_law_least")) := T.mgl (T.d.fact 37 (f := .glo "_law_least") rfl)
theorem Txt.g_law_total (T : Txt K mg) : mg "_law_total" = some (.ref (He.ga K "_law_total")) := T.mgl (T.d.fact 38 (f := .glo "_law_total") rfl)
theorem Txt.g_law_seats (T : Txt K mg) : mg "_law_seats" = some (.ref (He.ga K "_law_seats")) := T.mgl (T.d.fact 39 (f := .glo "_law_seats") rfl)
theorem Txt.g_law_edit (T : Txt K mg) : mg "_law_edit" = some (.ref (He.ga K "_law_edit")) := T.mgl (T.d.fact 40 (f := .glo "_law_edit") rfl)
theorem Txt.g_law_edited (T : Txt K mg) : mg "_law_edited" = some (.ref (He.ga K "_law_edited")) := T.mgl (T.d.fact 41 (f := .glo "_law_edited") rfl)
theorem Txt.g_law_same (T : Txt K mg) : mg "_law_same" = some (.ref (He.ga K "_law_same")) := T.mgl (T.d.fact 42 (f := .glo "_law_same") rfl)
theorem Txt.g_law_menu (T : Txt K mg) : mg "_law_menu" = some (.ref (He.ga K "_law_menu")) := T.mgl (T.d.fact 43 (f := .glo "_law_menu") rfl)
theorem Txt.g_law_clash (T : Txt K mg) : mg "_law_clash" = some (.ref (He.ga K "_law_clash")) := T.mgl (T.d.fact 44 (f := .glo "_law_clash") rfl)
theorem Txt.g_law_sets (T : Txt K mg) : mg "_law_sets" = some (.ref (He.ga K "_law_sets")) := T.mgl (T.d.fact 45 (f := .glo "_law_sets") rfl)
theorem Txt.g_law_clashes (T : Txt K mg) : mg "_law_clashes" = some (.ref (He.ga K "_law_clashes")) := T.mgl (T.d.fact 46 (f := .glo "_law_clashes") rfl)
theorem Txt.g_law_holds (T : Txt K mg) : mg "_law_holds" = some (.ref (He.ga K "_law_holds")) := T.mgl (T.d.fact 47 (f := .glo "_law_holds") rfl)
theorem Txt.g_law_behind (T : Txt K mg) : mg "_law_behind" = some (.ref (He.ga K "_law_behind")) := T.mgl (T.d.fact 48 (f := .glo "_law_behind") rfl)
theorem Txt.g_law_due (T : Txt K mg) : mg "_law_due" = some (.ref (He.ga K "_law_due")) := T.mgl (T.d.fact 49 (f := .glo "_law_due") rfl)
theorem Txt.g_law_known_answers (T : Txt K mg) : mg "_law_known_answers" = some (.ref (He.ga K "_law_known_answers")) := T.mgl (T.d.fact 50 (f := .glo "_law_known_answers") rfl)
theorem Txt.g_law (T : Txt K mg) : mg "law" = some (.ref (He.ga K "law")) := T.mgl (T.d.fact 51 (f := .glo "law") rfl)
theorem Txt.g_Lot (T : Txt K mg) : mg "Lot" = some (.ref (He.ga K "Lot")) := T.mgl (T.d.fact 52 (f := .glo "Lot") rfl)
theorem Txt.g_Web (T : Txt K mg) : mg "Web" = some (.ref (He.ga K "Web")) := T.mgl (T.d.fact 53 (f := .glo "Web") rfl)
theorem Txt.g_Prices (T : Txt K mg) : mg "Prices" = some (.ref (He.ga K "Prices")) := T.mgl (T.d.fact 54 (f := .glo "Prices") rfl)
theorem Txt.g_Least (T : Txt K mg) : mg "Least" = some (.ref (He.ga K "Least")) := T.mgl (T.d.fact 55 (f := .glo "Least") rfl)
theorem Txt.g_Network (T : Txt K mg) : mg "Network" = some (.ref (He.ga K "Network")) := T.mgl (T.d.fact 56 (f := .glo "Network") rfl)
theorem Txt.g_Task (T : Txt K mg) : mg "Task" = some (.ref (He.ga K "Task")) := T.mgl (T.d.fact 57 (f := .glo "Task") rfl)
theorem Txt.g_WORDS (T : Txt K mg) : mg "WORDS" = some (.ref (He.ga K "WORDS")) := T.mgl (T.d.fact 58 (f := .glo "WORDS") rfl)
theorem Txt.g_SHAPES (T : Txt K mg) : mg "SHAPES" = some (.ref (He.ga K "SHAPES")) := T.mgl (T.d.fact 59 (f := .glo "SHAPES") rfl)
theorem Txt.b_tuple (T : Txt K mg) : mg "tuple" = none := T.mfr (T.d.fact 60 (f := .free "tuple") rfl)
theorem Txt.b_sorted (T : Txt K mg) : mg "sorted" = none := T.mfr (T.d.fact 61 (f := .free "sorted") rfl)
theorem Txt.b_int (T : Txt K mg) : mg "int" = none := T.mfr (T.d.fact 62 (f := .free "int") rfl)
theorem Txt.b_len (T : Txt K mg) : mg "len" = none := T.mfr (T.d.fact 63 (f := .free "len") rfl)
theorem Txt.b_iter (T : Txt K mg) : mg "iter" = none := T.mfr (T.d.fact 64 (f := .free "iter") rfl)
theorem Txt.b_isinstance (T : Txt K mg) : mg "isinstance" = none := T.mfr (T.d.fact 65 (f := .free "isinstance") rfl)
theorem Txt.b_all (T : Txt K mg) : mg "all" = none := T.mfr (T.d.fact 66 (f := .free "all") rfl)
theorem Txt.b_list (T : Txt K mg) : mg "list" = none := T.mfr (T.d.fact 67 (f := .free "list") rfl)
theorem Txt.b_range (T : Txt K mg) : mg "range" = none := T.mfr (T.d.fact 68 (f := .free "range") rfl)
theorem Txt.b_enumerate (T : Txt K mg) : mg "enumerate" = none := T.mfr (T.d.fact 69 (f := .free "enumerate") rfl)
theorem Txt.b_sum (T : Txt K mg) : mg "sum" = none := T.mfr (T.d.fact 70 (f := .free "sum") rfl)
theorem Txt.b_min (T : Txt K mg) : mg "min" = none := T.mfr (T.d.fact 71 (f := .free "min") rfl)
theorem Txt.b_str (T : Txt K mg) : mg "str" = none := T.mfr (T.d.fact 72 (f := .free "str") rfl)
theorem Txt.b_any (T : Txt K mg) : mg "any" = none := T.mfr (T.d.fact 73 (f := .free "any") rfl)
theorem Txt.b_abs (T : Txt K mg) : mg "abs" = none := T.mfr (T.d.fact 74 (f := .free "abs") rfl)
theorem Txt.b_dict (T : Txt K mg) : mg "dict" = none := T.mfr (T.d.fact 75 (f := .free "dict") rfl)
theorem Txt.i_MOST_PLACES (T : Txt K mg) : ∃ u, mg "MOST_PLACES" = some u ∧ RelV (.int (24)) u := by
  obtain ⟨t, h⟩ := T.mint (T.d.fact 76 (f := .int "MOST_PLACES" (24)) rfl)
  exact ⟨_, h, t, rfl⟩
theorem Txt.i_MOST_EDGES (T : Txt K mg) : ∃ u, mg "MOST_EDGES" = some u ∧ RelV (.int (80)) u := by
  obtain ⟨t, h⟩ := T.mint (T.d.fact 77 (f := .int "MOST_EDGES" (80)) rfl)
  exact ⟨_, h, t, rfl⟩
theorem Txt.i_OUTSIDE_webs (T : Txt K mg) : ∃ u, mg "OUTSIDE_webs" = some u ∧ RelV (.int (-1)) u := by
  obtain ⟨t, h⟩ := T.mint (T.d.fact 78 (f := .int "OUTSIDE_webs" (-1)) rfl)
  exact ⟨_, h, t, rfl⟩
theorem Txt.i_MOST (T : Txt K mg) : ∃ u, mg "MOST" = some u ∧ RelV (.int (100000)) u := by
  obtain ⟨t, h⟩ := T.mint (T.d.fact 79 (f := .int "MOST" (100000)) rfl)
  exact ⟨_, h, t, rfl⟩
theorem Txt.i_OUTSIDE_flows (T : Txt K mg) : ∃ u, mg "OUTSIDE_flows" = some u ∧ RelV (.int (-1)) u := by
  obtain ⟨t, h⟩ := T.mint (T.d.fact 80 (f := .int "OUTSIDE_flows" (-1)) rfl)
  exact ⟨_, h, t, rfl⟩
theorem Txt.i_MOST_SEATS (T : Txt K mg) : ∃ u, mg "MOST_SEATS" = some u ∧ RelV (.int (4)) u := by
  obtain ⟨t, h⟩ := T.mint (T.d.fact 81 (f := .int "MOST_SEATS" (4)) rfl)
  exact ⟨_, h, t, rfl⟩
theorem Txt.i_MOST_LETTERS (T : Txt K mg) : ∃ u, mg "MOST_LETTERS" = some u ∧ RelV (.int (8)) u := by
  obtain ⟨t, h⟩ := T.mint (T.d.fact 82 (f := .int "MOST_LETTERS" (8)) rfl)
  exact ⟨_, h, t, rfl⟩
theorem Txt.i_MOST_EDITS (T : Txt K mg) : ∃ u, mg "MOST_EDITS" = some u ∧ RelV (.int (6)) u := by
  obtain ⟨t, h⟩ := T.mint (T.d.fact 83 (f := .int "MOST_EDITS" (6)) rfl)
  exact ⟨_, h, t, rfl⟩
theorem Txt.s_LETTERS (T : Txt K mg) : ∃ u, mg "LETTERS" = some u ∧ RelV (.str "abcdefghijklmnopqrstuvwxyz") u := by
  obtain ⟨t, h⟩ := T.mstr (T.d.fact 84 (f := .str "LETTERS" "abcdefghijklmnopqrstuvwxyz") rfl)
  exact ⟨_, h, t, rfl⟩
theorem Txt.c_Lot (T : Txt K mg) : Cls K (He.ga K "Lot") := He.cls_ok (T.d.fact 85 (f := .cls "Lot") rfl)
theorem Txt.k_Lot (T : Txt K mg) : Mk K (He.ga K "Lot") (He.ma K (He.ga K "Lot") "__init__") := He.mkr_ok (T.d.fact 86 (f := .mkr "Lot") rfl)
theorem Txt.n_Lot_places (T : Txt K mg) : NoAttr K (He.ga K "Lot") "places" := He.noat_ok (T.d.fact 87 (f := .noat "Lot" "places") rfl)
theorem Txt.m_Lot_init (T : Txt K mg) : Meth K (He.ga K "Lot") "__init__" (He.ma K (He.ga K "Lot") "__init__") := He.meth_ok (T.d.fact 88 (f := .meth "Lot" "__init__") rfl)
theorem Txt.m_Lot_len (T : Txt K mg) : Meth K (He.ga K "Lot") "__len__" (He.ma K (He.ga K "Lot") "__len__") := He.meth_ok (T.d.fact 89 (f := .meth "Lot" "__len__") rfl)
theorem Txt.m_Lot_iter (T : Txt K mg) : Meth K (He.ga K "Lot") "__iter__" (He.ma K (He.ga K "Lot") "__iter__") := He.meth_ok (T.d.fact 90 (f := .meth "Lot" "__iter__") rfl)
theorem Txt.m_Lot_or (T : Txt K mg) : Meth K (He.ga K "Lot") "__or__" (He.ma K (He.ga K "Lot") "__or__") := He.meth_ok (T.d.fact 91 (f := .meth "Lot" "__or__") rfl)
theorem Txt.m_Lot_sub (T : Txt K mg) : Meth K (He.ga K "Lot") "__sub__" (He.ma K (He.ga K "Lot") "__sub__") := He.meth_ok (T.d.fact 92 (f := .meth "Lot" "__sub__") rfl)
theorem Txt.c_Web (T : Txt K mg) : Cls K (He.ga K "Web") := He.cls_ok (T.d.fact 93 (f := .cls "Web") rfl)
theorem Txt.k_Web (T : Txt K mg) : Mk K (He.ga K "Web") (He.ma K (He.ga K "Web") "__init__") := He.mkr_ok (T.d.fact 94 (f := .mkr "Web") rfl)
theorem Txt.n_Web_places (T : Txt K mg) : NoAttr K (He.ga K "Web") "places" := He.noat_ok (T.d.fact 95 (f := .noat "Web" "places") rfl)
theorem Txt.n_Web_edges (T : Txt K mg) : NoAttr K (He.ga K "Web") "edges" := He.noat_ok (T.d.fact 96 (f := .noat "Web" "edges") rfl)
theorem Txt.n_Web_entry (T : Txt K mg) : NoAttr K (He.ga K "Web") "entry" := He.noat_ok (T.d.fact 97 (f := .noat "Web" "entry") rfl)
theorem Txt.n_Web_exits (T : Txt K mg) : NoAttr K (He.ga K "Web") "exits" := He.noat_ok (T.d.fact 98 (f := .noat "Web" "exits") rfl)
theorem Txt.m_Web_init (T : Txt K mg) : Meth K (He.ga K "Web") "__init__" (He.ma K (He.ga K "Web") "__init__") := He.meth_ok (T.d.fact 99 (f := .meth "Web" "__init__") rfl)
theorem Txt.m_Web_check_idle (T : Txt K mg) : Meth K (He.ga K "Web") "check_idle" (He.ma K (He.ga K "Web") "check_idle") := He.meth_ok (T.d.fact 100 (f := .meth "Web" "check_idle") rfl)
theorem Txt.m_Web_eq (T : Txt K mg) : Meth K (He.ga K "Web") "__eq__" (He.ma K (He.ga K "Web") "__eq__") := He.meth_ok (T.d.fact 101 (f := .meth "Web" "__eq__") rfl)
theorem Txt.m_Web_ends (T : Txt K mg) : Meth K (He.ga K "Web") "ends" (He.ma K (He.ga K "Web") "ends") := He.meth_ok (T.d.fact 102 (f := .meth "Web" "ends") rfl)
theorem Txt.c_Prices (T : Txt K mg) : Cls K (He.ga K "Prices") := He.cls_ok (T.d.fact 103 (f := .cls "Prices") rfl)
theorem Txt.k_Prices (T : Txt K mg) : Mk K (He.ga K "Prices") (He.ma K (He.ga K "Prices") "__init__") := He.mkr_ok (T.d.fact 104 (f := .mkr "Prices") rfl)
theorem Txt.n_Prices_web (T : Txt K mg) : NoAttr K (He.ga K "Prices") "web" := He.noat_ok (T.d.fact 105 (f := .noat "Prices" "web") rfl)
theorem Txt.n_Prices_saves (T : Txt K mg) : NoAttr K (He.ga K "Prices") "saves" := He.noat_ok (T.d.fact 106 (f := .noat "Prices" "saves") rfl)
theorem Txt.n_Prices_backs (T : Txt K mg) : NoAttr K (He.ga K "Prices") "backs" := He.noat_ok (T.d.fact 107 (f := .noat "Prices" "backs") rfl)
theorem Txt.m_Prices_init (T : Txt K mg) : Meth K (He.ga K "Prices") "__init__" (He.ma K (He.ga K "Prices") "__init__") := He.meth_ok (T.d.fact 108 (f := .meth "Prices" "__init__") rfl)
theorem Txt.m_Prices_getitem (T : Txt K mg) : Meth K (He.ga K "Prices") "__getitem__" (He.ma K (He.ga K "Prices") "__getitem__") := He.meth_ok (T.d.fact 109 (f := .meth "Prices" "__getitem__") rfl)
theorem Txt.m_Prices_with_price (T : Txt K mg) : Meth K (He.ga K "Prices") "with_price" (He.ma K (He.ga K "Prices") "with_price") := He.meth_ok (T.d.fact 110 (f := .meth "Prices" "with_price") rfl)
theorem Txt.c_Least (T : Txt K mg) : Cls K (He.ga K "Least") := He.cls_ok (T.d.fact 111 (f := .cls "Least") rfl)
theorem Txt.k_Least (T : Txt K mg) : Mk K (He.ga K "Least") (He.ma K (He.ga K "Least") "__init__") := He.mkr_ok (T.d.fact 112 (f := .mkr "Least") rfl)
theorem Txt.n_Least_cost (T : Txt K mg) : NoAttr K (He.ga K "Least") "cost" := He.noat_ok (T.d.fact 113 (f := .noat "Least" "cost") rfl)
theorem Txt.n_Least_lot (T : Txt K mg) : NoAttr K (He.ga K "Least") "lot" := He.noat_ok (T.d.fact 114 (f := .noat "Least" "lot") rfl)
theorem Txt.n_Least_flow (T : Txt K mg) : NoAttr K (He.ga K "Least") "flow" := He.noat_ok (T.d.fact 115 (f := .noat "Least" "flow") rfl)
theorem Txt.n_Least_row (T : Txt K mg) : NoAttr K (He.ga K "Least") "row" := He.noat_ok (T.d.fact 116 (f := .noat "Least" "row") rfl)
theorem Txt.m_Least_init (T : Txt K mg) : Meth K (He.ga K "Least") "__init__" (He.ma K (He.ga K "Least") "__init__") := He.meth_ok (T.d.fact 117 (f := .meth "Least" "__init__") rfl)
theorem Txt.c_Network (T : Txt K mg) : Cls K (He.ga K "Network") := He.cls_ok (T.d.fact 118 (f := .cls "Network") rfl)
theorem Txt.k_Network (T : Txt K mg) : Mk K (He.ga K "Network") (He.ma K (He.ga K "Network") "__init__") := He.mkr_ok (T.d.fact 119 (f := .mkr "Network") rfl)
theorem Txt.n_Network_sources (T : Txt K mg) : NoAttr K (He.ga K "Network") "sources" := He.noat_ok (T.d.fact 120 (f := .noat "Network" "sources") rfl)
theorem Txt.n_Network_sinks (T : Txt K mg) : NoAttr K (He.ga K "Network") "sinks" := He.noat_ok (T.d.fact 121 (f := .noat "Network" "sinks") rfl)
theorem Txt.n_Network_places (T : Txt K mg) : NoAttr K (He.ga K "Network") "places" := He.noat_ok (T.d.fact 122 (f := .noat "Network" "places") rfl)
theorem Txt.n_Network_rooms (T : Txt K mg) : NoAttr K (He.ga K "Network") "rooms" := He.noat_ok (T.d.fact 123 (f := .noat "Network" "rooms") rfl)
theorem Txt.n_Network_tips (T : Txt K mg) : NoAttr K (He.ga K "Network") "tips" := He.noat_ok (T.d.fact 124 (f := .noat "Network" "tips") rfl)
theorem Txt.n_Network_numbers (T : Txt K mg) : NoAttr K (He.ga K "Network") "numbers" := He.noat_ok (T.d.fact 125 (f := .noat "Network" "numbers") rfl)
theorem Txt.m_Network_init (T : Txt K mg) : Meth K (He.ga K "Network") "__init__" (He.ma K (He.ga K "Network") "__init__") := He.meth_ok (T.d.fact 126 (f := .meth "Network" "__init__") rfl)
theorem Txt.m_Network_free (T : Txt K mg) : Meth K (He.ga K "Network") "free" (He.ma K (He.ga K "Network") "free") := He.meth_ok (T.d.fact 127 (f := .meth "Network" "free") rfl)
theorem Txt.m_Network_steps_from (T : Txt K mg) : Meth K (He.ga K "Network") "steps_from" (He.ma K (He.ga K "Network") "steps_from") := He.meth_ok (T.d.fact 128 (f := .meth "Network" "steps_from") rfl)
theorem Txt.m_Network_met_from (T : Txt K mg) : Meth K (He.ga K "Network") "met_from" (He.ma K (He.ga K "Network") "met_from") := He.meth_ok (T.d.fact 129 (f := .meth "Network" "met_from") rfl)
theorem Txt.m_Network_path (T : Txt K mg) : Meth K (He.ga K "Network") "path" (He.ma K (He.ga K "Network") "path") := He.meth_ok (T.d.fact 130 (f := .meth "Network" "path") rfl)
theorem Txt.m_Network_least_free (T : Txt K mg) : Meth K (He.ga K "Network") "least_free" (He.ma K (He.ga K "Network") "least_free") := He.meth_ok (T.d.fact 131 (f := .meth "Network" "least_free") rfl)
theorem Txt.m_Network_fill (T : Txt K mg) : Meth K (He.ga K "Network") "fill" (He.ma K (He.ga K "Network") "fill") := He.meth_ok (T.d.fact 132 (f := .meth "Network" "fill") rfl)
theorem Txt.m_Network_barred_row (T : Txt K mg) : Meth K (He.ga K "Network") "barred_row" (He.ma K (He.ga K "Network") "barred_row") := He.meth_ok (T.d.fact 133 (f := .meth "Network" "barred_row") rfl)
theorem Txt.m_Network_value (T : Txt K mg) : Meth K (He.ga K "Network") "value" (He.ma K (He.ga K "Network") "value") := He.meth_ok (T.d.fact 134 (f := .meth "Network" "value") rfl)
theorem Txt.m_Network_least_places (T : Txt K mg) : Meth K (He.ga K "Network") "least_places" (He.ma K (He.ga K "Network") "least_places") := He.meth_ok (T.d.fact 135 (f := .meth "Network" "least_places") rfl)
theorem Txt.c_Task (T : Txt K mg) : Cls K (He.ga K "Task") := He.cls_ok (T.d.fact 136 (f := .cls "Task") rfl)
theorem Txt.k_Task (T : Txt K mg) : Mk K (He.ga K "Task") (He.ma K (He.ga K "Task") "__init__") := He.mkr_ok (T.d.fact 137 (f := .mkr "Task") rfl)
theorem Txt.n_Task_web (T : Txt K mg) : NoAttr K (He.ga K "Task") "web" := He.noat_ok (T.d.fact 138 (f := .noat "Task" "web") rfl)
theorem Txt.n_Task_seats (T : Txt K mg) : NoAttr K (He.ga K "Task") "seats" := He.noat_ok (T.d.fact 139 (f := .noat "Task" "seats") rfl)
theorem Txt.n_Task_prices (T : Txt K mg) : NoAttr K (He.ga K "Task") "prices" := He.noat_ok (T.d.fact 140 (f := .noat "Task" "prices") rfl)
theorem Txt.m_Task_init (T : Txt K mg) : Meth K (He.ga K "Task") "__init__" (He.ma K (He.ga K "Task") "__init__") := He.meth_ok (T.d.fact 141 (f := .meth "Task" "__init__") rfl)
theorem Txt.m_Task_uses (T : Txt K mg) : Meth K (He.ga K "Task") "uses" (He.ma K (He.ga K "Task") "uses") := He.meth_ok (T.d.fact 142 (f := .meth "Task" "uses") rfl)
theorem Txt.m_Task_total (T : Txt K mg) : Meth K (He.ga K "Task") "total" (He.ma K (He.ga K "Task") "total") := He.meth_ok (T.d.fact 143 (f := .meth "Task" "total") rfl)
theorem Txt.m_Task_with_uses (T : Txt K mg) : Meth K (He.ga K "Task") "with_uses" (He.ma K (He.ga K "Task") "with_uses") := He.meth_ok (T.d.fact 144 (f := .meth "Task" "with_uses") rfl)
theorem Txt.f_ascending (T : Txt K mg) : ∃ fd, FunD K "ascending" "ascending" (defArgs s_ascending) (defBody s_ascending) (defScope s_ascending) [] [] (He.ga K "ascending") fd := T.d.def_ 0 (d := d_ascending) rfl
theorem Txt.f_check_places (T : Txt K mg) : ∃ fd, FunD K "check_places" "check_places" (defArgs s_check_places) (defBody s_check_places) (defScope s_check_places) [] [] (He.ga K "check_places") fd := T.d.def_ 1 (d := d_check_places) rfl
theorem Txt.f_good_edge (T : Txt K mg) : ∃ fd, FunD K "good_edge" "good_edge" (defArgs s_good_edge) (defBody s_good_edge) (defScope s_good_edge) [] [] (He.ga K "good_edge") fd := T.d.def_ 2 (d := d_good_edge) rfl
theorem Txt.f_reached (T : Txt K mg) : ∃ fd, FunD K "reached" "reached" (defArgs s_reached) (defBody s_reached) (defScope s_reached) [] [] (He.ga K "reached") fd := T.d.def_ 3 (d := d_reached) rfl
theorem Txt.f_check_gate (T : Txt K mg) : ∃ fd, FunD K "check_gate" "check_gate" (defArgs s_check_gate) (defBody s_check_gate) (defScope s_check_gate) [] [] (He.ga K "check_gate") fd := T.d.def_ 4 (d := d_check_gate) rfl
theorem Txt.f_check_word (T : Txt K mg) : ∃ fd, FunD K "check_word" "check_word" (defArgs s_check_word) (defBody s_check_word) (defScope s_check_word) [] [] (He.ga K "check_word") fd := T.d.def_ 5 (d := d_check_word) rfl
theorem Txt.f_good_price (T : Txt K mg) : ∃ fd, FunD K "good_price" "good_price" (defArgs s_good_price) (defBody s_good_price) (defScope s_good_price) [] [] (He.ga K "good_price") fd := T.d.def_ 6 (d := d_good_price) rfl
theorem Txt.f_check_numbers (T : Txt K mg) : ∃ fd, FunD K "check_numbers" "check_numbers" (defArgs s_check_numbers) (defBody s_check_numbers) (defScope s_check_numbers) [] [] (He.ga K "check_numbers") fd := T.d.def_ 7 (d := d_check_numbers) rfl
theorem Txt.f_replaced (T : Txt K mg) : ∃ fd, FunD K "replaced" "replaced" (defArgs s_replaced) (defBody s_replaced) (defScope s_replaced) [] [] (He.ga K "replaced") fd := T.d.def_ 8 (d := d_replaced) rfl
theorem Txt.f_check_web (T : Txt K mg) : ∃ fd, FunD K "check_web" "check_web" (defArgs s_check_web) (defBody s_check_web) (defScope s_check_web) [] [] (He.ga K "check_web") fd := T.d.def_ 9 (d := d_check_web) rfl
theorem Txt.f_ends_of_arc (T : Txt K mg) : ∃ fd, FunD K "ends_of_arc" "ends_of_arc" (defArgs s_ends_of_arc) (defBody s_ends_of_arc) (defScope s_ends_of_arc) [] [] (He.ga K "ends_of_arc") fd := T.d.def_ 10 (d := d_ends_of_arc) rfl
theorem Txt.f_arcs (T : Txt K mg) : ∃ fd, FunD K "arcs" "arcs" (defArgs s_arcs) (defBody s_arcs) (defScope s_arcs) [] [] (He.ga K "arcs") fd := T.d.def_ 11 (d := d_arcs) rfl
theorem Txt.f_way_back (T : Txt K mg) : ∃ fd, FunD K "way_back" "way_back" (defArgs s_way_back) (defBody s_way_back) (defScope s_way_back) [] [] (He.ga K "way_back") fd := T.d.def_ 12 (d := d_way_back) rfl
theorem Txt.f_least (T : Txt K mg) : ∃ fd, FunD K "least" "least" (defArgs s_least) (defBody s_least) (defScope s_least) [] [] (He.ga K "least") fd := T.d.def_ 13 (d := d_least) rfl
theorem Txt.f_good_name (T : Txt K mg) : ∃ fd, FunD K "good_name" "good_name" (defArgs s_good_name) (defBody s_good_name) (defScope s_good_name) [] [] (He.ga K "good_name") fd := T.d.def_ 14 (d := d_good_name) rfl
theorem Txt.f_uses_of (T : Txt K mg) : ∃ fd, FunD K "uses_of" "uses_of" (defArgs s_uses_of) (defBody s_uses_of) (defScope s_uses_of) [] [] (He.ga K "uses_of") fd := T.d.def_ 15 (d := d_uses_of) rfl
theorem Txt.f_sum_or_none (T : Txt K mg) : ∃ fd, FunD K "sum_or_none" "sum_or_none" (defArgs s_sum_or_none) (defBody s_sum_or_none) (defScope s_sum_or_none) [] [] (He.ga K "sum_or_none") fd := T.d.def_ 16 (d := d_sum_or_none) rfl
theorem Txt.f_edited (T : Txt K mg) : ∃ fd, FunD K "edited" "edited" (defArgs s_edited) (defBody s_edited) (defScope s_edited) [] [] (He.ga K "edited") fd := T.d.def_ 17 (d := d_edited) rfl
theorem Txt.f_clash (T : Txt K mg) : ∃ fd, FunD K "clash" "clash" (defArgs s_clash) (defBody s_clash) (defScope s_clash) [] [] (He.ga K "clash") fd := T.d.def_ 18 (d := d_clash) rfl
theorem Txt.f_all_sets (T : Txt K mg) : ∃ fd, FunD K "all_sets" "all_sets" (defArgs s_all_sets) (defBody s_all_sets) (defScope s_all_sets) [.int 0] [] (He.ga K "all_sets") fd := T.d.def_ 19 (d := d_all_sets) rfl
theorem Txt.f_counts (T : Txt K mg) : ∃ fd, FunD K "counts" "counts" (defArgs s_counts) (defBody s_counts) (defScope s_counts) [] [] (He.ga K "counts") fd := T.d.def_ 20 (d := d_counts) rfl
theorem Txt.f_behind (T : Txt K mg) : ∃ fd, FunD K "behind" "behind" (defArgs s_behind) (defBody s_behind) (defScope s_behind) [] [] (He.ga K "behind") fd := T.d.def_ 21 (d := d_behind) rfl
theorem Txt.f_check_menu (T : Txt K mg) : ∃ fd, FunD K "check_menu" "check_menu" (defArgs s_check_menu) (defBody s_check_menu) (defScope s_check_menu) [] [] (He.ga K "check_menu") fd := T.d.def_ 22 (d := d_check_menu) rfl
theorem Txt.f_holds_one (T : Txt K mg) : ∃ fd, FunD K "holds_one" "holds_one" (defArgs s_holds_one) (defBody s_holds_one) (defScope s_holds_one) [] [] (He.ga K "holds_one") fd := T.d.def_ 23 (d := d_holds_one) rfl
theorem Txt.f_mending (T : Txt K mg) : ∃ fd, FunD K "mending" "mending" (defArgs s_mending) (defBody s_mending) (defScope s_mending) [] [] (He.ga K "mending") fd := T.d.def_ 24 (d := d_mending) rfl
theorem Txt.f_law_pool (T : Txt K mg) : ∃ fd, FunD K "_law_pool" "_law_pool" (defArgs s_law_pool) (defBody s_law_pool) (defScope s_law_pool) [] [] (He.ga K "_law_pool") fd := T.d.def_ 25 (d := d_law_pool) rfl
theorem Txt.f_law_draw (T : Txt K mg) : ∃ fd, FunD K "_law_draw" "_law_draw" (defArgs s_law_draw) (defBody s_law_draw) (defScope s_law_draw) [] [] (He.ga K "_law_draw") fd := T.d.def_ 26 (d := d_law_draw) rfl
theorem Txt.f_law_ahead (T : Txt K mg) : ∃ fd, FunD K "_law_ahead" "_law_ahead" (defArgs s_law_ahead) (defBody s_law_ahead) (defScope s_law_ahead) [] [] (He.ga K "_law_ahead") fd := T.d.def_ 27 (d := d_law_ahead) rfl
theorem Txt.f_law_web (T : Txt K mg) : ∃ fd, FunD K "_law_web" "_law_web" (defArgs s_law_web) (defBody s_law_web) (defScope s_law_web) [] [] (He.ga K "_law_web") fd := T.d.def_ 28 (d := d_law_web) rfl
theorem Txt.f_law_made (T : Txt K mg) : ∃ fd, FunD K "_law_made" "_law_made" (defArgs s_law_made) (defBody s_law_made) (defScope s_law_made) [] [] (He.ga K "_law_made") fd := T.d.def_ 29 (d := d_law_made) rfl
theorem Txt.f_law_gates (T : Txt K mg) : ∃ fd, FunD K "_law_gates" "_law_gates" (defArgs s_law_gates) (defBody s_law_gates) (defScope s_law_gates) [] [] (He.ga K "_law_gates") fd := T.d.def_ 30 (d := d_law_gates) rfl
theorem Txt.f_law_marks (T : Txt K mg) : ∃ fd, FunD K "_law_marks" "_law_marks" (defArgs s_law_marks) (defBody s_law_marks) (defScope s_law_marks) [] [] (He.ga K "_law_marks") fd := T.d.def_ 31 (d := d_law_marks) rfl
theorem Txt.f_law_some (T : Txt K mg) : ∃ fd, FunD K "_law_some" "_law_some" (defArgs s_law_some) (defBody s_law_some) (defScope s_law_some) [] [] (He.ga K "_law_some") fd := T.d.def_ 32 (d := d_law_some) rfl
theorem Txt.f_law_price (T : Txt K mg) : ∃ fd, FunD K "_law_price" "_law_price" (defArgs s_law_price) (defBody s_law_price) (defScope s_law_price) [] [] (He.ga K "_law_price") fd := T.d.def_ 33 (d := d_law_price) rfl
theorem Txt.f_law_prices (T : Txt K mg) : ∃ fd, FunD K "_law_prices" "_law_prices" (defArgs s_law_prices) (defBody s_law_prices) (defScope s_law_prices) [] [] (He.ga K "_law_prices") fd := T.d.def_ 34 (d := d_law_prices) rfl
theorem Txt.f_law_cost (T : Txt K mg) : ∃ fd, FunD K "_law_cost" "_law_cost" (defArgs s_law_cost) (defBody s_law_cost) (defScope s_law_cost) [] [] (He.ga K "_law_cost") fd := T.d.def_ 35 (d := d_law_cost) rfl
theorem Txt.f_law_lots (T : Txt K mg) : ∃ fd, FunD K "_law_lots" "_law_lots" (defArgs s_law_lots) (defBody s_law_lots) (defScope s_law_lots) [] [] (He.ga K "_law_lots") fd := T.d.def_ 36 (d := d_law_lots) rfl
theorem Txt.f_law_least (T : Txt K mg) : ∃ fd, FunD K "_law_least" "_law_least" (defArgs s_law_least) (defBody s_law_least) (defScope s_law_least) [] [] (He.ga K "_law_least") fd := T.d.def_ 37 (d := d_law_least) rfl
theorem Txt.f_law_total (T : Txt K mg) : ∃ fd, FunD K "_law_total" "_law_total" (defArgs s_law_total) (defBody s_law_total) (defScope s_law_total) [] [] (He.ga K "_law_total") fd := T.d.def_ 38 (d := d_law_total) rfl
theorem Txt.f_law_seats (T : Txt K mg) : ∃ fd, FunD K "_law_seats" "_law_seats" (defArgs s_law_seats) (defBody s_law_seats) (defScope s_law_seats) [] [] (He.ga K "_law_seats") fd := T.d.def_ 39 (d := d_law_seats) rfl
theorem Txt.f_law_edit (T : Txt K mg) : ∃ fd, FunD K "_law_edit" "_law_edit" (defArgs s_law_edit) (defBody s_law_edit) (defScope s_law_edit) [] [] (He.ga K "_law_edit") fd := T.d.def_ 40 (d := d_law_edit) rfl
theorem Txt.f_law_edited (T : Txt K mg) : ∃ fd, FunD K "_law_edited" "_law_edited" (defArgs s_law_edited) (defBody s_law_edited) (defScope s_law_edited) [] [] (He.ga K "_law_edited") fd := T.d.def_ 41 (d := d_law_edited) rfl
theorem Txt.f_law_same (T : Txt K mg) : ∃ fd, FunD K "_law_same" "_law_same" (defArgs s_law_same) (defBody s_law_same) (defScope s_law_same) [] [] (He.ga K "_law_same") fd := T.d.def_ 42 (d := d_law_same) rfl
theorem Txt.f_law_menu (T : Txt K mg) : ∃ fd, FunD K "_law_menu" "_law_menu" (defArgs s_law_menu) (defBody s_law_menu) (defScope s_law_menu) [] [] (He.ga K "_law_menu") fd := T.d.def_ 43 (d := d_law_menu) rfl
theorem Txt.f_law_clash (T : Txt K mg) : ∃ fd, FunD K "_law_clash" "_law_clash" (defArgs s_law_clash) (defBody s_law_clash) (defScope s_law_clash) [] [] (He.ga K "_law_clash") fd := T.d.def_ 44 (d := d_law_clash) rfl
theorem Txt.f_law_sets (T : Txt K mg) : ∃ fd, FunD K "_law_sets" "_law_sets" (defArgs s_law_sets) (defBody s_law_sets) (defScope s_law_sets) [] [] (He.ga K "_law_sets") fd := T.d.def_ 45 (d := d_law_sets) rfl
theorem Txt.f_law_clashes (T : Txt K mg) : ∃ fd, FunD K "_law_clashes" "_law_clashes" (defArgs s_law_clashes) (defBody s_law_clashes) (defScope s_law_clashes) [] [] (He.ga K "_law_clashes") fd := T.d.def_ 46 (d := d_law_clashes) rfl
theorem Txt.f_law_holds (T : Txt K mg) : ∃ fd, FunD K "_law_holds" "_law_holds" (defArgs s_law_holds) (defBody s_law_holds) (defScope s_law_holds) [] [] (He.ga K "_law_holds") fd := T.d.def_ 47 (d := d_law_holds) rfl
theorem Txt.f_law_behind (T : Txt K mg) : ∃ fd, FunD K "_law_behind" "_law_behind" (defArgs s_law_behind) (defBody s_law_behind) (defScope s_law_behind) [] [] (He.ga K "_law_behind") fd := T.d.def_ 48 (d := d_law_behind) rfl
theorem Txt.f_law_due (T : Txt K mg) : ∃ fd, FunD K "_law_due" "_law_due" (defArgs s_law_due) (defBody s_law_due) (defScope s_law_due) [] [] (He.ga K "_law_due") fd := T.d.def_ 49 (d := d_law_due) rfl
theorem Txt.f_law_known_answers (T : Txt K mg) : ∃ fd, FunD K "_law_known_answers" "_law_known_answers" (defArgs s_law_known_answers) (defBody s_law_known_answers) (defScope s_law_known_answers) [] [] (He.ga K "_law_known_answers") fd := T.d.def_ 50 (d := d_law_known_answers) rfl
theorem Txt.f_law (T : Txt K mg) : ∃ fd, FunD K "law" "law" (defArgs s_law) (defBody s_law) (defScope s_law) [] [] (He.ga K "law") fd := T.d.def_ 51 (d := d_law) rfl
theorem Txt.f_Lot_init (T : Txt K mg) : ∃ fd, FunD K "__init__" "Lot.__init__" (defArgs s_Lot_init) (defBody s_Lot_init) (defScope s_Lot_init) [] [] (He.ma K (He.ga K "Lot") "__init__") fd := T.d.def_ 52 (d := d_Lot_init) rfl
theorem Txt.f_Lot_len (T : Txt K mg) : ∃ fd, FunD K "__len__" "Lot.__len__" (defArgs s_Lot_len) (defBody s_Lot_len) (defScope s_Lot_len) [] [] (He.ma K (He.ga K "Lot") "__len__") fd := T.d.def_ 53 (d := d_Lot_len) rfl
theorem Txt.f_Lot_iter (T : Txt K mg) : ∃ fd, FunD K "__iter__" "Lot.__iter__" (defArgs s_Lot_iter) (defBody s_Lot_iter) (defScope s_Lot_iter) [] [] (He.ma K (He.ga K "Lot") "__iter__") fd := T.d.def_ 54 (d := d_Lot_iter) rfl
theorem Txt.f_Lot_or (T : Txt K mg) : ∃ fd, FunD K "__or__" "Lot.__or__" (defArgs s_Lot_or) (defBody s_Lot_or) (defScope s_Lot_or) [] [] (He.ma K (He.ga K "Lot") "__or__") fd := T.d.def_ 55 (d := d_Lot_or) rfl
theorem Txt.f_Lot_sub (T : Txt K mg) : ∃ fd, FunD K "__sub__" "Lot.__sub__" (defArgs s_Lot_sub) (defBody s_Lot_sub) (defScope s_Lot_sub) [] [] (He.ma K (He.ga K "Lot") "__sub__") fd := T.d.def_ 56 (d := d_Lot_sub) rfl
theorem Txt.f_Web_init (T : Txt K mg) : ∃ fd, FunD K "__init__" "Web.__init__" (defArgs s_Web_init) (defBody s_Web_init) (defScope s_Web_init) [] [] (He.ma K (He.ga K "Web") "__init__") fd := T.d.def_ 57 (d := d_Web_init) rfl
theorem Txt.f_Web_check_idle (T : Txt K mg) : ∃ fd, FunD K "check_idle" "Web.check_idle" (defArgs s_Web_check_idle) (defBody s_Web_check_idle) (defScope s_Web_check_idle) [] [] (He.ma K (He.ga K "Web") "check_idle") fd := T.d.def_ 58 (d := d_Web_check_idle) rfl
theorem Txt.f_Web_eq (T : Txt K mg) : ∃ fd, FunD K "__eq__" "Web.__eq__" (defArgs s_Web_eq) (defBody s_Web_eq) (defScope s_Web_eq) [] [] (He.ma K (He.ga K "Web") "__eq__") fd := T.d.def_ 59 (d := d_Web_eq) rfl
theorem Txt.f_Web_ends (T : Txt K mg) : ∃ fd, FunD K "ends" "Web.ends" (defArgs s_Web_ends) (defBody s_Web_ends) (defScope s_Web_ends) [] [] (He.ma K (He.ga K "Web") "ends") fd := T.d.def_ 60 (d := d_Web_ends) rfl
theorem Txt.f_Prices_init (T : Txt K mg) : ∃ fd, FunD K "__init__" "Prices.__init__" (defArgs s_Prices_init) (defBody s_Prices_init) (defScope s_Prices_init) [] [] (He.ma K (He.ga K "Prices") "__init__") fd := T.d.def_ 61 (d := d_Prices_init) rfl
theorem Txt.f_Prices_getitem (T : Txt K mg) : ∃ fd, FunD K "__getitem__" "Prices.__getitem__" (defArgs s_Prices_getitem) (defBody s_Prices_getitem) (defScope s_Prices_getitem) [] [] (He.ma K (He.ga K "Prices") "__getitem__") fd := T.d.def_ 62 (d := d_Prices_getitem) rfl
theorem Txt.f_Prices_with_price (T : Txt K mg) : ∃ fd, FunD K "with_price" "Prices.with_price" (defArgs s_Prices_with_price) (defBody s_Prices_with_price) (defScope s_Prices_with_price) [] [] (He.ma K (He.ga K "Prices") "with_price") fd := T.d.def_ 63 (d := d_Prices_with_price) rfl
theorem Txt.f_Least_init (T : Txt K mg) : ∃ fd, FunD K "__init__" "Least.__init__" (defArgs s_Least_init) (defBody s_Least_init) (defScope s_Least_init) [] [] (He.ma K (He.ga K "Least") "__init__") fd := T.d.def_ 64 (d := d_Least_init) rfl
theorem Txt.f_Network_init (T : Txt K mg) : ∃ fd, FunD K "__init__" "Network.__init__" (defArgs s_Network_init) (defBody s_Network_init) (defScope s_Network_init) [] [] (He.ma K (He.ga K "Network") "__init__") fd := T.d.def_ 65 (d := d_Network_init) rfl
theorem Txt.f_Network_free (T : Txt K mg) : ∃ fd, FunD K "free" "Network.free" (defArgs s_Network_free) (defBody s_Network_free) (defScope s_Network_free) [] [] (He.ma K (He.ga K "Network") "free") fd := T.d.def_ 66 (d := d_Network_free) rfl
theorem Txt.f_Network_steps_from (T : Txt K mg) : ∃ fd, FunD K "steps_from" "Network.steps_from" (defArgs s_Network_steps_from) (defBody s_Network_steps_from) (defScope s_Network_steps_from) [] [] (He.ma K (He.ga K "Network") "steps_from") fd := T.d.def_ 67 (d := d_Network_steps_from) rfl
theorem Txt.f_Network_met_from (T : Txt K mg) : ∃ fd, FunD K "met_from" "Network.met_from" (defArgs s_Network_met_from) (defBody s_Network_met_from) (defScope s_Network_met_from) [] [] (He.ma K (He.ga K "Network") "met_from") fd := T.d.def_ 68 (d := d_Network_met_from) rfl
theorem Txt.f_Network_path (T : Txt K mg) : ∃ fd, FunD K "path" "Network.path" (defArgs s_Network_path) (defBody s_Network_path) (defScope s_Network_path) [] [] (He.ma K (He.ga K "Network") "path") fd := T.d.def_ 69 (d := d_Network_path) rfl
theorem Txt.f_Network_least_free (T : Txt K mg) : ∃ fd, FunD K "least_free" "Network.least_free" (defArgs s_Network_least_free) (defBody s_Network_least_free) (defScope s_Network_least_free) [] [] (He.ma K (He.ga K "Network") "least_free") fd := T.d.def_ 70 (d := d_Network_least_free) rfl
theorem Txt.f_Network_fill (T : Txt K mg) : ∃ fd, FunD K "fill" "Network.fill" (defArgs s_Network_fill) (defBody s_Network_fill) (defScope s_Network_fill) [] [] (He.ma K (He.ga K "Network") "fill") fd := T.d.def_ 71 (d := d_Network_fill) rfl
theorem Txt.f_Network_barred_row (T : Txt K mg) : ∃ fd, FunD K "barred_row" "Network.barred_row" (defArgs s_Network_barred_row) (defBody s_Network_barred_row) (defScope s_Network_barred_row) [] [] (He.ma K (He.ga K "Network") "barred_row") fd := T.d.def_ 72 (d := d_Network_barred_row) rfl
theorem Txt.f_Network_value (T : Txt K mg) : ∃ fd, FunD K "value" "Network.value" (defArgs s_Network_value) (defBody s_Network_value) (defScope s_Network_value) [] [] (He.ma K (He.ga K "Network") "value") fd := T.d.def_ 73 (d := d_Network_value) rfl
theorem Txt.f_Network_least_places (T : Txt K mg) : ∃ fd, FunD K "least_places" "Network.least_places" (defArgs s_Network_least_places) (defBody s_Network_least_places) (defScope s_Network_least_places) [] [] (He.ma K (He.ga K "Network") "least_places") fd := T.d.def_ 74 (d := d_Network_least_places) rfl
theorem Txt.f_Task_init (T : Txt K mg) : ∃ fd, FunD K "__init__" "Task.__init__" (defArgs s_Task_init) (defBody s_Task_init) (defScope s_Task_init) [] [] (He.ma K (He.ga K "Task") "__init__") fd := T.d.def_ 75 (d := d_Task_init) rfl
theorem Txt.f_Task_uses (T : Txt K mg) : ∃ fd, FunD K "uses" "Task.uses" (defArgs s_Task_uses) (defBody s_Task_uses) (defScope s_Task_uses) [] [] (He.ma K (He.ga K "Task") "uses") fd := T.d.def_ 76 (d := d_Task_uses) rfl
theorem Txt.f_Task_total (T : Txt K mg) : ∃ fd, FunD K "total" "Task.total" (defArgs s_Task_total) (defBody s_Task_total) (defScope s_Task_total) [] [] (He.ma K (He.ga K "Task") "total") fd := T.d.def_ 77 (d := d_Task_total) rfl
theorem Txt.f_Task_with_uses (T : Txt K mg) : ∃ fd, FunD K "with_uses" "Task.with_uses" (defArgs s_Task_with_uses) (defBody s_Task_with_uses) (defScope s_Task_with_uses) [] [] (He.ma K (He.ga K "Task") "with_uses") fd := T.d.def_ 78 (d := d_Task_with_uses) rfl
end
end Sv
namespace Sv
open PySem PySem.Spec PyProof.Rows L2
theorem rref (a : Addr) : RelV (.ref a) (.ref a) := rfl
/-! ### calls below the running body -/
section
variable {X : Cx} {pins : List (Addr × Obj)} {σ : L2.St} {H : Hp} {s : Shared} {k j : Nat} {f C : Addr} {fd : FuncData} {ps : List Str} {sp : Sp} {A' : Around} {E' : Value → Shared → Prop}
theorem env_at (I : Inv X pins σ H s) (fr : A'.frames = X.A.frames) : Env0 X.prog X.w X.K X.mg X.base A' X.stack s H := by
  have z := I.env0
  exact ⟨fr.trans z.frames, z.mod, z.bs, z.bsz, z.funs, z.frf, z.hok, z.bare⟩
theorem run_at {us : List Value} {vs : List V} {Q : VK} (sb : Sub X k A') (F : FnOk X.prog X.w X.K X.mg X.base CX0 k f fd ps sp) (hb : Binds X.K fd ps []) (I : Inv X pins σ H s) (r : Vals vs us) (h : sp vs H Q E0) :
    wpAny (model X.prog X.w) A' (call (.ref f) us) (EP X pins σ Q) E' s := by
  have hl : (us ++ []).length = ps.length := by
    rw [List.append_nil, ← r.length]
    exact F.len _ _ _ _ h
  have bd := hb s us I.kIn hl
  rw [List.append_nil] at bd
  refine wpAny_call (codeAny_mono (F.run A' X.stack s H ⟨us, []⟩ us vs Q E0 sb.room (env_at I sb.fr) bd r h) fun res s' hq => ?_)
  match res, hq with
  | .ok (.ret u), hq => exact I.after hq
/-- what stands at an instance, for the library's rules -/
theorem inst_of {a dx : Addr} {fs : List (Str × V)} (I : Inv X pins σ H s) (ha : H a = some (.ins C dx fs)) : ∃ od, PySem.W.InstAt s.heap a (PySem.W.instObj C dx) C (some od) := by
  obtain ⟨mA, O, _⟩ := ins_get I.hok ha
  obtain ⟨od, J, _⟩ := O.look
  exact ⟨od, J⟩
/-! ### a[b] by an own __getitem__ -/
def tIxO (C : Addr) (sp : Sp) (ta tb : TE) : TE := fun σ H Q => ta σ H fun x H1 => tb σ H1 fun y H2 => ∃ p dx fs, x = .ref p ∧ H2 p = some (.ins C dx fs) ∧ sp [.ref p, y] H2 Q E0
theorem fnIn_of {K : PySem.W.Frag} {a : Addr} (h : PySem.W.isFn K (.ref a) = true) (k : ∃ oc od fd osl, K.lookup a = some ⟨oc, od, .func fd, osl⟩) : PySem.W.fnIn K a = true := by
  obtain ⟨oc, od, fd, osl, e⟩ := k
  unfold PySem.W.fnIn
  rw [e]
theorem pe_ixO {a b : Expr} {ta tb : TE} {pos : Pos} (me : Meth X.K C "__getitem__" f) (lk : PySem.W.fnIn X.K f = true) (F : FnOk X.prog X.w X.K X.mg X.base CX0 k f fd ps sp) (hb : Binds X.K fd ps []) (hr : Room (k + 1) X.A) (ha : PE X a ta) (hbe : PE X b tb)
    (hsl : ∀ o i, subscripted b true o i = runValue (.builtin "lifetime.subscript" ⟨[o, i], []⟩) := by intros; with_unfolding_all rfl) : PE X (.Subscript a b pos) (tIxO C sp ta tb) := by
  refine ⟨fun pins s σ H Q I h => Subscript_ (binT ha hbe I h fun v u s2 x y H2 I2 rx ry q => ?_)⟩
  obtain ⟨p, dx, fs, rfl, hp, q⟩ := q
  cases rx
  obtain ⟨od, J⟩ := inst_of I2 hp
  obtain ⟨m, hF⟩ := I2.fr
  exact PySem.W.sub_K hF I2.ok.mod.kin J me.at_ lk me.fn (run_at ⟨hr.in1, rfl⟩ F hb I2 (.cons (rref p) (.cons ry .nil)) q) (hsl _ _)
/-! ### a | b, a - b by own methods, both of the class at C -/
theorem op_own {op : Operator} (self : PySem.W.selfFirst X.K C = true) (hs : PySem.W.findIn X.K (.ref C) (PySem.dunder op.info.2) = some (some (.ref f))) (hf : PySem.W.isFn X.K (.ref f) = true)
    (F : FnOk X.prog X.w X.K X.mg X.base CX0 k f fd ps sp) (hb : Binds X.K fd ps []) (hr : Room k X.A) :
    OpR X (binaryOp op) (fun x y H Q => ∃ p q dx dy fs gs, x = .ref p ∧ y = .ref q ∧ H p = some (.ins C dx fs) ∧ H q = some (.ins C dy gs) ∧ sp [.ref p, .ref q] H Q E0) := by
  intro pins s σ H x y v u Q I rx ry h
  obtain ⟨p, q, dx, dy, fs, gs, rfl, rfl, hp, hq, z⟩ := h
  cases rx
  cases ry
  obtain ⟨od, J⟩ := inst_of I hp
  obtain ⟨od', J'⟩ := inst_of I hq
  obtain ⟨m, hF⟩ := I.fr
  refine PySem.W.binop_K hF I.ok.mod.kin J J'.type self hs hf (wpAny_mono (run_at (A' := X.A) ⟨hr, rfl⟩ F hb I (.cons (rref p) (.cons (rref q) .nil)) z) (fun r s' e => ?_) fun _ _ e => e)
  obtain ⟨w, H', I', rw', qw⟩ := e
  have nn : r ≠ .notImplemented := by
    rintro rfl
    cases w <;> first
      | (obtain ⟨t, ht⟩ := rw'; cases ht; done)
      | (cases rw'; done)
  cases r <;> first
    | exact absurd rfl nn
    | exact ⟨w, H', I', rw', qw⟩
/-! ### x in t, t a tuple of data -/
def rInT (K : PySem.W.Frag) (neg : Bool) : R2 := fun x y H Q => ∃ d ds, Dp K H x d ∧ Dp K H y (.tuple ds) ∧ SeqAt.shaped d = true ∧ SeqAt.shaped (.tuple ds) = true ∧ Q (.bl (if neg then !(ds.any fun z => PyData.eqv z d) else ds.any fun z => PyData.eqv z d)) H
theorem op_inT (hr : Room k X.A) : OpR X (compareOp .In) (rInT X.K false) := by
  intro pins s σ H x y v u Q I rx ry h
  obtain ⟨d, ds, hd, he, sd, se, q⟩ := h
  obtain ⟨as, r1⟩ := Dp.reads I d x v hd rx
  obtain ⟨bs, r2⟩ := Dp.reads I (.tuple ds) y u he ry
  exact SeqAt.in_tuple_reads r2 r1 (SeqAt.canLay_of_shaped se) (SeqAt.canLay_of_shaped sd) (room_in_shaped sd (by have := hr.un; omega)) ⟨.bl _, H, I, rfl, q⟩
theorem op_notInT (hr : Room k X.A) : OpR X (compareOp .NotIn) (rInT X.K true) := by
  intro pins s σ H x y v u Q I rx ry h
  obtain ⟨d, ds, hd, he, sd, se, q⟩ := h
  obtain ⟨as, r1⟩ := Dp.reads I d x v hd rx
  obtain ⟨bs, r2⟩ := Dp.reads I (.tuple ds) y u he ry
  exact SeqAt.notIn_tuple_reads r2 r1 (SeqAt.canLay_of_shaped se) (SeqAt.canLay_of_shaped sd) (room_in_shaped sd (by have := hr.un; omega)) ⟨.bl _, H, I, rfl, q⟩
end
/-! ### enumerate over a tuple too -/
theorem tup_apart {h : Heap} {t it : Addr} {items : Array Value} {i : Nat} (ht : h.IsTuple t items) (hi : h.IsTupleIter it t i) : t ≠ it := by
  rintro rfl
  obtain ⟨o, ho, hc, _⟩ := ht
  obtain ⟨o', ho', hc', _⟩ := hi
  cases ho.symm.trans ho'
  rw [hc] at hc'
  exact absurd hc' (by decide)
set_option maxHeartbeats 1000000 in
/-- what enumerate(v) makes, v begun by B -/
theorem enum_made {v : Value} {o : Obj} {H : Heap → Prop} (B : Begins v o H) :
    Meets (Builtin.«enumerate.__new__» ⟨[.type "enumerate", v], []⟩) (fun _ R s => H s.heap ∧
      R (.ok (.ret (.ref (s.heap.push o).objs.size))) { s with heap := (s.heap.push o).push { cls := .type "enumerate", data := .fields #[.none, .bool false, .ref s.heap.objs.size, rawInt 0, .none, .none] } }) :=
  .of_wp fun prog w A R s h => by
    obtain ⟨hp, gs, dr, tk, os⟩ := s
    obtain ⟨hH, hR⟩ := h
    have hsub := sub_enumerate
    have begun : ∀ {A' : Around} {E : Value → Shared → Prop} {Q : Value → Shared → Prop}, Q (.ref hp.objs.size) ⟨hp.push o, gs, dr, tk, os⟩ → wpAny (model prog w) A' (pyIter v) Q E ⟨hp, gs, dr, tk, os⟩ := fun q => B.iter prog w _ _ ⟨hp, gs, dr, tk, os⟩ _ hH q
    wp_walk using begun
    refine wpAny_stack_any fun st => wpAny_pure ?_
    split
    · rename_i c _ _ _ _ _
      cases (c == Value.type "enumerate") <;> (wp_walk using begun; exact ⟨_, rfl, hR⟩)
    · wp_walk using begun
      exact ⟨_, rfl, hR⟩
theorem call_enum {prog : Program} {w : World} {A : Around} {E : Value → Shared → Prop} {s : Shared} {v : Value} {o : Obj} {H : Heap → Prop} {Q : Value → Shared → Prop} (B : Begins v o H) (hH : H s.heap)
    (h : ∀ h', IsEnum h' (s.heap.objs.size + 1) s.heap.objs.size 0 .none → h'.get? s.heap.objs.size = some o → (∀ b u, s.heap.get? b = some u → h'.get? b = some u) → Q (.ref (s.heap.objs.size + 1)) { s with heap := h' }) :
    wpAny (model prog w) A (call (.type "enumerate") [v]) Q E s := by
  refine callType_new F.called_enumerate (by decide) (F.typeCall_enumerate_1 _) (F.newCall_enumerate_1 _) (fun obj => F.args_object_init_2 obj _) F.entry_enumerate_new (enum_made B) ⟨hH, ?_⟩
  have z : (s.heap.push o).objs.size = s.heap.objs.size + 1 := Heap.size_push ..
  show _ ∧ _
  have new := Heap.get?_push_size (s.heap.push o) (o := { cls := .type "enumerate", data := .fields #[.none, .bool false, .ref s.heap.objs.size, rawInt 0, .none, .none] }) rfl
  rw [z] at new ⊢
  exact ⟨⟨_, new, rfl⟩, h _ new (Heap.get?_push_of_some _ (Heap.get?_push_size _ B.free)) fun b u e => Heap.get?_push_of_some _ (Heap.get?_push_of_some _ e)⟩
/-- the tuple at a, its items in new pairs with their places -/
def IteT (K : PySem.W.Frag) (a : Addr) : It where
  go := fun i H => ∃ (xs : List V) (x : V), SqT K H a xs ∧ xs[i]? = some x
  yld := fun i H v H' => ∃ T x, v = .ref T ∧ H T = none ∧ H' = upd H T (.tup [.int (i : Nat), x]) ∧ ∀ xs, SqT K H a xs → xs[i]? = some x
  stop := fun i H => ∃ xs : List V, SqT K H a xs ∧ xs.length ≤ i
theorem turn_enumT {P : Program} {w : World} {K : PySem.W.Frag} {elts : List Expr} {kk : Nat} {tpos : Pos} (a e it : Addr) (hne : e ≠ it) (hea : e ≠ a) :
    Turn P w K (.Tuple elts kk tpos) (IteT K a) [e, it] e (fun i h => (∃ old, IsEnum h e it ((i : Nat) : Int) old) ∧ h.IsTupleIter it a i) where
  mem := List.mem_cons_self ..
  obj := fun i h st b hb => by
    obtain ⟨⟨old, he⟩, ⟨o, ho, hc, hd⟩⟩ := st
    rcases List.mem_cons.mp hb with rfl | z
    · exact ⟨_, he, fun v q => nomatch q⟩
    · exact ⟨o, (List.mem_singleton.mp z) ▸ ho, fun v q => by rw [hd] at q; cases q⟩
  keep := fun i h h' st k => ⟨st.1.imp fun old he => k e (List.mem_cons_self ..) _ he, st.2.at fun o q => k it (List.mem_cons_of_mem _ (List.mem_cons_self ..)) o q⟩
  item := by
    intro X hP hw hK hc i pins s σ H E I hf st hg
    subst hP hw hK
    obtain ⟨⟨old, he⟩, hit⟩ := st
    obtain ⟨xs, x, hq, hx⟩ := hg
    obtain ⟨its, rv, p, hz⟩ := I.tuple hq
    obtain ⟨u, hu, ru⟩ := rv.get hx
    have pt : s.heap.IsTuple a its.toArray := p
    have hui : its.toArray[i]? = some u := by rw [List.getElem?_toArray]; exact hu
    have hlt : i < its.toArray.size := (Array.getElem?_eq_some_iff.mp hui).1
    have hlow : ∀ b, b ∈ [e, it] → b < s.heap.objs.size := fun b hb => by
      rcases List.mem_cons.mp hb with z | z
      · exact z ▸ Heap.lt_size he
      · obtain ⟨_, q, _⟩ := hit
        exact (List.mem_singleton.mp z) ▸ Heap.lt_size q
    have ea := fun z : e ∈ [it, a] => (List.mem_cons.mp z).elim hne fun z => hea (List.mem_singleton.mp z)
    refine wpAny_pyNext_enum_itemD (Draws.tuple (A := X.A.in1) (I.ok.hd hc) it a (tup_apart pt hit) its.toArray) he ⟨hit, pt⟩ hlt hne ea fun y h' tk hy ho hit' hT hsz hk => ?_
    have ey : y = u := by
      have q : some y = some u := hy.symm.trans hui
      cases q
      rfl
    subst ey
    refine ⟨_, rfl, wpAny_letOwnedTupleGo_enum (s := { s with heap := h', toks := tk + 1 }) ho fun h'' he' sb => ?_⟩
    have hT2 : h''.get? s.heap.objs.size = some { cls := .type "tuple", data := .seq #[.int i tk, y] } := (sb.2 _ (Nat.ne_of_gt (hlow e (List.mem_cons_self ..)))).trans hT
    have made : ObjOk X.prog X.w (upd H s.heap.objs.size (.tup [.int (i : Nat), x])) h'' s.heap.objs.size (.tup [.int (i : Nat), x]) :=
      ⟨by show 2 ≤ sizeLine; decide, [.int i tk, y], .cons ⟨tk, rfl⟩ (.cons ru .nil), ⟨_, hT2, rfl, _, rfl⟩⟩
    have I1 : Inv X pins σ (upd H s.heap.objs.size (.tup [.int (i : Nat), x])) { s with heap := h'', toks := tk + 1 } :=
      I.turnedNew (ch := [e, it]) (fun b ob hb q => (sb.2 b fun z => hb (z ▸ List.mem_cons_self ..)).trans (hk b ob (fun z => hb (z ▸ List.mem_cons_self ..)) (fun z => hb (z ▸ List.mem_cons_of_mem _ (List.mem_cons_self ..))) q)) hf (Nat.le_refl _) made
    refine ⟨.ref s.heap.objs.size, _, I1, rfl, ⟨_, x, rfl, I.hok.fresh (Nat.le_refl _), rfl, fun ys hy => by rw [I.tuple_inj hy hq]; exact hx⟩, ⟨⟨y, ?_⟩, hit'.1.at fun o q => (sb.2 it hne.symm).trans q⟩, fun b hb => ?_⟩
    · rw [show ((i + 1 : Nat) : Int) = (i : Int) + 1 by omega]
      exact he'
    · rw [upd_ne (Nat.ne_of_lt (hlow b hb))]
      exact (hf b hb).1
  done := by
    intro X hP hw hK hc i pins s σ H E I hf st hg
    subst hP hw hK
    obtain ⟨⟨old, he⟩, hit⟩ := st
    obtain ⟨xs, hq, hx⟩ := hg
    obtain ⟨its, rv, p, hz⟩ := I.tuple hq
    have pt : s.heap.IsTuple a its.toArray := p
    obtain ⟨f0, f1, f2, f3, f4, f5⟩ := hf it (List.mem_cons_of_mem _ (List.mem_cons_self ..))
    have hn : its.toArray[i]? = none := by
      rw [List.getElem?_toArray, List.getElem?_eq_none_iff, ← rv.length]
      exact hx
    refine wpAny_pyNext_enum_endD (n := 0) (P := fun _ _ => False) (St := fun _ h => h.IsTupleIter it a i ∧ h.IsTuple a its.toArray) (fp := [it, a]) ?_ he ⟨hit, pt⟩ fun h' eb => ⟨rfl, I.turned (t' := s.toks) (fun b o hb q => eb b o hb q) f0 f1 f3 f4 f5⟩
    exact ⟨fun _ _ st => st.1.imp fun _ z => z.1, fun _ _ _ st hk => ⟨st.1.at fun o q => hk it (List.mem_cons_self ..) o q, st.2.at fun o q => hk a (List.mem_cons_of_mem _ (List.mem_cons_self ..)) o q⟩, fun _ _ _ _ z => absurd z (Nat.not_lt_zero _),
      fun s' Q' E' st hE => wpAny_nextOf_tuple_end (I.ok.hd hc) st.1 st.2 hn hE⟩
  self := fun A i s Q E st h => st.1.elim fun _ he => wpAny_pyIter_enum he h
def iEnumA (K : PySem.W.Frag) (ta : TA) : TI := fun σ H R => ta σ H fun vs H1 => ∃ a, vs = [.ref a] ∧ (((∃ xs, SqL K H1 a xs) ∧ R (Ite K a) H1) ∨ ((∃ xs, SqT K H1 a xs) ∧ R (IteT K a) H1))
theorem pi_enumA {X : Cx} {e : Expr} {ta : TA} {p pos tpos : Pos} {elts : List Expr} {kk : Nat} (hg : Gl X "enumerate") (hm : X.mg "enumerate" = none) (ha : PA X [e] ta) (hs : starEach [e] X.env = [(false, eval e X.env)] := by rfl) :
    PI X (.Tuple elts kk tpos) (.Call (.Name "enumerate" p) [e] [] pos) (iEnumA X.K ta) := by
  refine ⟨fun pins s σ H R I h => Call_ (ld_blt I hg hm boot_enumerate (PyProof.Rows.callWith_type1 (thn (ha.run pos pins s σ H _ I h) fun us s1 ⟨vs, H1, I1, r1, q1⟩ => ?_) hs rfl))⟩
  obtain ⟨a, rfl, q⟩ := q1
  obtain ⟨u, rfl, ru⟩ := vals1 r1
  cases ru
  have low : ∀ b, b ∈ [s1.heap.objs.size + 1, s1.heap.objs.size] → s1.heap.objs.size ≤ b := fun b hb => by
    rcases List.mem_cons.mp hb with z | z
    · omega
    · have := List.mem_singleton.mp z
      omega
  rcases q with ⟨⟨xs, hq⟩, q⟩ | ⟨⟨xs, hq⟩, q⟩
  · obtain ⟨its, rv, p', hz⟩ := I1.list hq
    refine call_enumerate_list p'.isList fun h' he hit hsz hk => wpAny_pyIter_enum he ?_
    exact ⟨s1.heap.objs.size + 1, [s1.heap.objs.size + 1, s1.heap.objs.size], _, _, H1, rfl, I1.kept (t' := s1.toks) hk, turn_enum a (s1.heap.objs.size + 1) s1.heap.objs.size, ⟨⟨.none, he⟩, hit, Nat.succ_ne_self _⟩, fun b hb => I1.fpOk (low b hb) (I1.hok.fresh (low b hb)), q⟩
  · obtain ⟨its, rv, p', hz⟩ := I1.tuple hq
    have pt : s1.heap.IsTuple a its.toArray := p'
    refine call_enum (begins_tuple a its.toArray) pt fun h' he hit hk => wpAny_pyIter_enum he ?_
    have alt : a < s1.heap.objs.size := by
      obtain ⟨o, ho, _⟩ := pt
      exact Heap.lt_size ho
    exact ⟨s1.heap.objs.size + 1, [s1.heap.objs.size + 1, s1.heap.objs.size], _, _, H1, rfl, I1.kept (t' := s1.toks) hk, turn_enumT a (s1.heap.objs.size + 1) s1.heap.objs.size (Nat.succ_ne_self _) (Nat.ne_of_gt (Nat.lt_succ_of_lt alt)), ⟨⟨.none, he⟩, ⟨_, hit, rfl, rfl⟩⟩, fun b hb => I1.fpOk (low b hb) (I1.hok.fresh (low b hb)), q⟩
/-! ### a def whose promise may speak of the heap's size at its call -/
section
variable {P : Program} {w : World} {K : PySem.W.Frag} {mg : Str → Option Value} {base : Heap}
/-- as FnOk, the promise sp told at the size of the heap at the call -/
def RunS (P : Program) (w : World) (K : PySem.W.Frag) (mg : Str → Option Value) (base : Heap) (k : Nat) (f : Addr) (fd : FuncData) (ps : List Str) (sp : Nat → Sp) : Prop :=
  ∀ (A : Around) (outer : List Env) (s : Shared) (H : Hp) (us : List Value) (vs : List V) (Q : VK), Room k A → Env0 P w K mg base A outer s H → BindsTo s fd ⟨us, []⟩ (ps.zip us) → Vals vs us → sp s.heap.objs.size vs H Q E0 →
    codeAny (model P w) A (.call (.ref f) ⟨us, []⟩) (CR CX0 outer P w H s Q E0) s
theorem runS_of {x qual : Str} {pa : Arguments} {bd : List Stmt} {sc : Scope} {f : Addr} {fd : FuncData} {N ps : List Str} {k : Nat} {sp : Nat → Sp} (F : FunD K x qual pa bd sc [] [] f fd) (S : FnScope N ps sc) (len : ∀ n vs H Q E, sp n vs H Q E → vs.length = ps.length)
    (hbody : ∀ (cdv : Value) (A : Around) (outer : List Env) (s : Shared) (H : Hp) (vs : List V) (Q : VK), Room k (A.deeper (envOfC qual sc s.heap.objs.size f cdv)) → sp s.heap.objs.size vs H Q E0 →
      ∃ t, PSs (cxOf CX0 P w K mg base N qual sc f cdv A outer s H E0) bd t ∧ t { nx := fun _ H' => Q .non H', rt := Q } (start N vs) H) : RunS P w K mg base (k + 1) f fd ps sp := by
  obtain ⟨oc, od, dV, kV, doc, pm, an, cdv, ct, osl, rfl, lk, hcd, _, _⟩ := F.ex
  intro A outer s H us vs Q hr en hb r hsp
  have low : ∀ b o, base.get? b = some o → s.heap.get? b = some o := fun b o e => (en.bs b o e).1
  have KX : K.In s.heap := en.mod.kin.keeps low
  have how : ∀ y ∈ ps.zip us, sc.names.lookup y.1 = some .local ∨ (sc.names.lookup y.1 = some .cell ∧ ((cellsFrom (s.heap.objs.size + 1) sc.names []).lookup y.1).isSome = true) := fun y hy =>
    (S.par y.1 (List.of_mem_zip (a := y.1) (b := y.2) hy).1).imp id fun q => ⟨q, PySem.W.cellsFrom_some _ _ _ (.inl q)⟩
  refine codeAny_call_function hr.depth (KX _ _ lk) rfl S.co S.gen rfl (PySem.W.codeRec_of KX hcd) (hb _ _ _ _ (wpAny_newFunctionEnv_cells S.kind how fun env he s1 x => ?_))
  subst he
  obtain ⟨t, ht, hq⟩ := hbody cdv A outer s H vs Q (hr.deeper _) hsp
  have I : Inv (cxOf CX0 P w K mg base N qual sc f cdv A outer s H E0) [] (start N vs) H s1 := inv_start S hr.hd en (len _ _ _ _ _ hsp) r x
  refine ⟨(en.mod.nolimit.keeps low).keeps x.toInCall.keep, codeAny_func (wpAny_mono (ht.run [] s1 (start N vs) H _ I hq) (fun fl s' z => ?_) fun e s' z => z)⟩
  match fl, z with
  | .ret u, z =>
    obtain ⟨v, σ', H', J, rv, q⟩ := z
    exact ⟨v, H', J.os, J.bare, J.base, J.hok, rv, q⟩
  | .next, z =>
    obtain ⟨σ', H', J, q⟩ := z
    exact ⟨V.non, H', J.os, J.bare, J.base, J.hok, rfl, q⟩
  | .brk, z =>
    obtain ⟨_, _, _, q⟩ := z
    exact False.elim q
  | .cont, z =>
    obtain ⟨_, _, _, q⟩ := z
    exact False.elim q
end
section
variable {X : Cx} {pins : List (Addr × Obj)} {σ : L2.St} {H : Hp} {s : Shared} {k : Nat} {f C : Addr} {fd : FuncData} {ps : List Str} {A' : Around} {E' : Value → Shared → Prop}
theorem runS_at {sp : Nat → Sp} {us : List Value} {vs : List V} {Q : VK} (sb : Sub X k A') (F : RunS X.prog X.w X.K X.mg X.base k f fd ps sp) (hb : Binds X.K fd ps []) (hl : us.length = ps.length) (I : Inv X pins σ H s) (r : Vals vs us) (h : sp s.heap.objs.size vs H Q E0) :
    wpAny (model X.prog X.w) A' (call (.ref f) us) (EP X pins σ Q) E' s := by
  have bd := hb s us I.kIn (by rw [List.append_nil]; exact hl)
  rw [List.append_nil] at bd
  refine wpAny_call (codeAny_mono (F A' X.stack s H us vs Q sb.room (env_at I sb.fr) bd r h) fun res s' hq => ?_)
  match res, hq with
  | .ok (.ret u), hq => exact I.after hq
/-! ### iter(t) of a tuple -/
def ItT (t it : Addr) : HO := .ext fun h => h.IsTupleIter it t 0
theorem itT_ok {P : Program} {w : World} {h : Heap} {t it : Addr} (e : h.IsTupleIter it t 0) : ObjOk P w H h it (ItT t it) :=
  ⟨e, e.imp fun _ z => z.1, fun _ _ q k => q.at k⟩
def rIterT (K : PySem.W.Frag) (n : Nat) : List V → Hp → VK → Prop := fun xs H Q => ∃ (t : Addr) (zs : List V), xs = [.ref t] ∧ SqT K H t zs ∧ ∀ it, H it = none → n ≤ it → Q (.ref it) (upd H it (ItT t it))
theorem call_iterT : CallR X (.builtin "iter") (rIterT X.K X.s_0.heap.objs.size) := by
  intro pins s σ H xs us Q I r h
  obtain ⟨t, zs, rfl, hq, q⟩ := h
  obtain ⟨u, rfl, ru⟩ := vals1 r
  cases ru
  obtain ⟨its, rv, pt, hz⟩ := I.tuple hq
  have pt' : s.heap.IsTuple t its.toArray := pt
  refine Calls.call_function_entry (by decide +kernel) (by decide +kernel) PySem.W.kdk_entry_iter (PySem.W.kdk_args_iter _) ?_
  unfold Builtin.«iter»
  refine wpAny_bind (m := someArgs "iter" 1 2 _) (wpAny_of_eq (a := [Value.ref t]) (by first | rfl | kernel_rfl!) ?_)
  show wpAny _ _ (pyIter (.ref t) >>= _) _ _ _
  refine wpAny_bind (wpAny_pyIter_tuple pt' (wpAny_pure ⟨_, rfl, ?_⟩))
  exact ⟨.ref s.heap.objs.size, _, I.laid (t' := s.toks) (fun b u e => Heap.get?_push_of_some _ e) (Nat.le_refl _) (itT_ok ⟨_, Heap.get?_push_size _ rfl, rfl, rfl⟩), rfl, q _ (I.hok.fresh (Nat.le_refl _)) I.sz⟩
end
/-! ### an own iterable: __iter__ gives the iterator of a tuple -/
/-- what __iter__ promises: a new iterator of the tuple that stands at the attribute f -/
def spIter (C : Addr) (f : Str) (K : PySem.W.Frag) (n : Nat) : Sp := fun vs H Q _ => ∃ a dx fs t xs, vs = [.ref a] ∧ H a = some (.ins C dx fs) ∧ fs.lookup f = some (.ref t) ∧ SqT K H t xs ∧ ∀ it, H it = none → n ≤ it → Q (.ref it) (upd H it (ItT t it))
structure OwnIt (X : Cx) (C : Addr) (f : Str) (k : Nat) : Prop where
  ex : ∃ (g : Addr) (fd : FuncData), PySem.W.findIn X.K (.ref C) "__iter__" = some (some (.ref g)) ∧ PySem.W.isFn X.K (.ref g) = true ∧ RunS X.prog X.w X.K X.mg X.base k g fd ["self"] (spIter C f X.K) ∧ Binds X.K fd ["self"] []
/-- list, tuple or own iterable: what is walked stands at t -/
inductive Wk (C : Addr) (f : Str) (K : PySem.W.Frag) (H : Hp) (a : Addr) (xs : List V) : It → Prop where
  | l : SqL K H a xs → Wk C f K H a xs (Itl K a)
  | t : SqT K H a xs → Wk C f K H a xs (Itt K a)
  | o {dx fs t} : H a = some (.ins C dx fs) → fs.lookup f = some (.ref t) → SqT K H t xs → Wk C f K H a xs (Itt K t)
section
variable {X : Cx} {pins : List (Addr × Obj)} {σ : L2.St} {H : Hp} {s : Shared} {k : Nat} {C a t : Addr} {f : Str} {A' : Around} {E' : Value → Shared → Prop}
/-- iter(o): the heap as it was (the iterator is not told), the iterator young -/
theorem own_iter {dx : Addr} {fs : List (Str × V)} {xs : List V} {Q : Value → Shared → Prop} (G : OwnIt X C f k) (sb : Sub X k A') (I : Inv X pins σ H s) (ha : H a = some (.ins C dx fs)) (hf : fs.lookup f = some (.ref t)) (ht : SqT X.K H t xs)
    (h : ∀ it s', Inv X pins σ H s' → s'.heap.IsTupleIter it t 0 → FpOk X pins H it → Q (.ref it) s') : wpAny (model X.prog X.w) A' (pyIter (.ref a)) Q E' s := by
  obtain ⟨g, fd, hi, hg, R, hb⟩ := G.ex
  obtain ⟨od, J⟩ := inst_of I ha
  obtain ⟨m, hF⟩ := I.fr
  refine PySem.W.owit_iter hF I.ok.mod.kin J hi hg (wpAny_mono (runS_at (Q := fun v H' => ∃ it, v = .ref it ∧ H it = none ∧ s.heap.objs.size ≤ it ∧ H' = upd H it (ItT t it)) sb R hb rfl I (.cons (rref a) .nil)
    ⟨a, dx, fs, t, xs, rfl, ha, hf, ht, fun it hn hs => ⟨it, rfl, hn, hs, rfl⟩⟩) (fun u s' z => ?_) fun _ _ e => e)
  obtain ⟨v, H', I', rv, it, rfl, hn, hs, rfl⟩ := z
  cases rv
  have hit : s'.heap.IsTupleIter it t 0 := (I'.hok it _ upd_same).1
  have I2 := ItX.inv_drop I' (φ := fun h => h.IsTupleIter it t 0) upd_same
  have fp := ItX.inv_fp I' (a := it) upd_same (Nat.le_trans I.sz hs)
  rw [ItX.dropH_upd hn] at I2 fp
  unfold PySem.W.OwitIt
  exact wpAny_specialOf hit.typeIs F.slot_tuple_iterator_next.lookup (h it s' I2 hit fp)
def iAny (C : Addr) (f : Str) (K : PySem.W.Frag) (tl : TE) : TI := fun σ H R => tl σ H fun x H1 => ∃ a xs J, x = .ref a ∧ Wk C f K H1 a xs J ∧ R J H1
theorem pi_any {tg l : Expr} {tl : TE} (G : OwnIt X C f k) (hr : Room k X.A) (hl : PE X l tl) : PI X tg l (iAny C f X.K tl) := by
  refine ⟨fun pins s σ H R I h => thn (hl.run pins s σ H _ I h) fun v s1 ⟨x, H1, I1, r1, a, xs, J, e, wk, q⟩ => ?_⟩
  subst e
  cases r1
  cases wk with
  | l hq =>
    obtain ⟨its, rv, p, _⟩ := I1.list hq
    refine wpAny_pyIter_list p.isList ⟨_, [s1.heap.objs.size], _, _, H1, rfl, I1.kept (t' := s1.toks) fun b o e => Heap.get?_push_of_some _ e, turn_list a _, ⟨_, Heap.get?_push_size _ rfl, rfl, rfl⟩, fun b hb => ?_, q⟩
    rw [List.mem_singleton.mp hb]
    exact I1.fpOk (Nat.le_refl _) (I1.hok.fresh (Nat.le_refl _))
  | t hq =>
    obtain ⟨its, rv, p, _⟩ := I1.tuple hq
    refine wpAny_pyIter_tuple (show s1.heap.IsTuple a its.toArray from p) ⟨_, [s1.heap.objs.size], _, _, H1, rfl, I1.kept (t' := s1.toks) fun b o e => Heap.get?_push_of_some _ e, turn_tuple a _, ⟨_, Heap.get?_push_size _ rfl, rfl, rfl⟩, fun b hb => ?_, q⟩
    rw [List.mem_singleton.mp hb]
    exact I1.fpOk (Nat.le_refl _) (I1.hok.fresh (Nat.le_refl _))
  | o ha hf hq =>
    refine own_iter G ⟨hr, rfl⟩ I1 ha hf hq fun it s2 I2 hit fp => ?_
    exact ⟨it, [it], _, _, H1, rfl, I2, turn_tuple _ it, hit, fun b hb => by rw [List.mem_singleton.mp hb]; exact fp, q⟩
end
/-! ### *o of an own iterable: __iter__, then __len__ for the room, then the items -/
/-- what __len__ promises -/
def spLen (C : Addr) (f : Str) (K : PySem.W.Frag) : Sp := fun vs H Q _ => ∃ a dx fs t xs, vs = [.ref a] ∧ H a = some (.ins C dx fs) ∧ fs.lookup f = some (.ref t) ∧ SqT K H t xs ∧ Q (.int (xs.length : Nat)) H
structure OwnLen (X : Cx) (C : Addr) (f : Str) (k : Nat) : Prop where
  ex : ∃ (g : Addr) (fd : FuncData), PySem.W.findIn X.K (.ref C) "__len__" = some (some (.ref g)) ∧ PySem.W.isFn X.K (.ref g) = true ∧ FnOk X.prog X.w X.K X.mg X.base CX0 k g fd ["self"] (spLen C f X.K) ∧ Binds X.K fd ["self"] []
section
variable {X : Cx} {pins : List (Addr × Obj)} {σ : L2.St} {H : Hp} {s : Shared} {k : Nat} {C a t : Addr} {f : Str} {A' : Around} {E' : Value → Shared → Prop}
theorem list_new_ok {h : Heap} {S : Addr} {xs : List V} {its : List Value} {n : Nat} (e : h.get? S = some { cls := .type "list", data := .seq its.toArray n }) (r : Vals xs its) (hz : xs.length ≤ sizeLine) : ObjOk X.prog X.w H h S (.lst xs) := ⟨hz, its, n, r, e⟩
/-- a fresh list of ours is filled by an untracked iterator of ours -/
theorem filled {S it : Addr} {xs ys : List V} {its : List Value} {n : Nat} {h' : Heap} {tk : Nat} (I : Inv X pins σ H s) (hS : H S = some (.lst ys)) (fp : FpOk X pins H it) (keep : ∀ b o, b ∉ [S, it] → s.heap.get? b = some o → h'.get? b = some o)
    (new : h'.get? S = some { cls := .type "list", data := .seq its.toArray n }) (r : Vals xs its) (hz : xs.length ≤ sizeLine) : Inv X pins σ (upd H S (.lst xs)) { s with heap := h', toks := tk } := by
  have hn : H it = none := fp.1
  have nS : ∀ b, H b = none → b ≠ S := fun b e z => by
    rw [z, hS] at e
    cases e
  have nit : ∀ b u, H b = some u → b ≠ it := fun b u e z => by
    rw [z, hn] at e
    cases e
  have kp : ∀ b o, b ≠ S → b ≠ it → s.heap.get? b = some o → h'.get? b = some o := fun b o h1 h2 => keep b o fun z => (List.mem_cons.mp z).elim h1 fun z => h2 (List.mem_singleton.mp z)
  have other : ∀ b u, H b = some u → (∀ zs, u ≠ .lst zs) → upd H S (.lst xs) b = some u := fun b u e n => by
    rw [upd_ne fun z => n ys (by rw [z, hS] at e; exact (Option.some.inj e).symm)]
    exact e
  have some' : ∀ b o, b ∉ [it] → s.heap.get? b = some o → ∃ o', h'.get? b = some o' := fun b o hc e => by
    by_cases h1 : b = S
    · exact ⟨_, h1 ▸ new⟩
    · exact ⟨o, kp b o h1 (fun z => hc (z ▸ List.mem_singleton.mpr rfl)) e⟩
  refine I.step (g' := s.gens) (d' := s.drawn) (ch := [it]) (fun b hb => ?_) (fun b o _ _ hc e n => kp b o (nS b n) (fun z => hc (z ▸ List.mem_singleton.mpr rfl)) e) (fun b o _ _ hc e n => ⟨o.slots, kp b o (nS b n) (fun z => hc (z ▸ List.mem_singleton.mpr rfl)) e⟩)
    (fun b o _ _ n => by rw [upd_ne (nS b n)]; exact n) (fun b o hc e => some' b o hc e) (fun b zs e => other b _ e fun _ z => nomatch z) (fun b o u e => other b _ e fun _ z => nomatch z) (fun b ps e => ⟨#[], by rw [other b _ e fun _ z => nomatch z]; simp⟩) (fun m hm => ?_) (fun b u e => ?_) I.bare
  · rw [List.mem_singleton.mp hb]
    exact ⟨fp.2.2.2.1, fp.2.1, fp.2.2.2.2.1, fp.2.2.2.2.2⟩
  · obtain ⟨o, es, ep, ho, q⟩ := hm
    exact ⟨o, es, ep, kp _ o (nS _ I.free) (fun z => fp.2.1 z.symm) ho, q⟩
  · by_cases hb : b = S
    · subst hb
      rw [upd_same] at e
      cases e
      exact list_new_ok (X := X) new r hz
    · rw [upd_ne hb] at e
      refine (I.hok b u e).stay (fun c v hc q => ?_) (fun c q => other c _ q fun _ z => nomatch z) fun c zs q => other c _ q fun _ z => nomatch z
      rcases hc with z | z
      · exact kp c v (z ▸ hb) (z ▸ nit b u e) q
      · exact kp c v (fun y => by rw [y, hS] at z; cases z) (nit c _ z) q
theorem collect_own {dx : Addr} {fs : List (Str × V)} {xs : List V} {Q : List Value → Shared → Prop} (G : OwnIt X C f k) (L : OwnLen X C f k) (hr : Room (k + 2) X.A) (I : Inv X pins σ H s) (ha : H a = some (.ins C dx fs)) (hf : fs.lookup f = some (.ref t)) (ht : SqT X.K H t xs)
    (h : ∀ S us s', H S = none → Inv X pins σ (upd H S (.lst xs)) s' → Vals xs us → Q us s') : wpAny (model X.prog X.w) X.A (collect (.ref a)) Q E' s := by
  unfold collect
  refine wpAny_bind (wpAny_runValue (codeAny_builtin F.entry_proto_collect ?_))
  rw [Around.under_plainId F.plain_proto_collect _]
  show wpAny _ X.A.in1 (newList [] >>= fun l => again (.builtin "list.__iadd__" ⟨[l, .ref a], []⟩)) _ _ s
  refine wpAny_bind (wpAny_newObj_type (wpAny_pure ⟨plainId_quiet F.plain_list_iadd _, codeAny_builtin F.entry_list_iadd ?_⟩))
  rw [Around.under_plainId F.plain_list_iadd _]
  generalize hSe : s.heap.objs.size = S
  have fS : H S = none := I.hok.fresh (Nat.le_of_eq hSe)
  have I1 : Inv X pins σ (upd H S (.lst [])) { s with heap := s.heap.push { cls := .type "list", data := .seq ([] : List Value).toArray } } :=
    I.laid (t' := s.toks) (fun b o e => Heap.get?_push_of_some _ e) (Nat.le_of_eq hSe) (list_new_ok (X := X) (its := []) (n := 0) (by rw [← hSe]; exact Heap.get?_push_size _ rfl) .nil (Nat.zero_le _))
  have ha1 : upd H S (.lst []) a = some (.ins C dx fs) := by
    rw [upd_ne (ne_of_none ha fS)]
    exact ha
  have ht1 : SqT X.K (upd H S (.lst [])) t xs := SqT.ext ht (Ext.upd fS)
  show wpAny _ X.A.in1 (Builtin.List.listExtendWith (.ref S) (.ref a) (.ref S)) _ _ _
  unfold Builtin.List.listExtendWith
  obtain ⟨od, J⟩ := inst_of I1 ha1
  refine wpAny_bind (J.type.here ?_)
  have hne : (Builtin.List.listSameRef (.ref S) (.ref a) || Value.ref C == Value.type "list" || Value.ref C == Value.type "tuple") = false := by
    have q : Builtin.List.listSameRef (.ref S) (.ref a) = false := by
      have : S ≠ a := (ne_of_none ha fS).symm
      simp [Builtin.List.listSameRef, this]
    rw [q]
    rfl
  rw [if_neg (by rw [hne]; exact Bool.false_ne_true)]
  refine wpAny_bind (own_iter G ⟨(hr.mono (Nat.le_succ _)).in1, rfl⟩ I1 ha1 hf ht1 fun it s2 I2 hit fp => ?_)
  -- the iterator is pinned while __len__ runs
  obtain ⟨oi, hoi, hci, hdi⟩ := id hit
  have I3 := I2.pinned (fp := [it]) (fun b hb => by rw [List.mem_singleton.mp hb]; exact fp) (fun b hb => by rw [List.mem_singleton.mp hb]; exact ⟨oi, hoi, fun v z => by rw [hdi] at z; cases z⟩)
  obtain ⟨g, fd, hl, hg, FL, bL⟩ := L.ex
  obtain ⟨od3, J3⟩ := inst_of I3 ha1
  obtain ⟨m3, hF3⟩ := I3.fr
  have len_ok : xs.length ≤ sizeLine := (I.tuple ht).elim fun _ z => z.2.2
  refine wpAny_bind (wpAny_holding ?_)
  unfold Builtin.List.listLengthHint
  refine wpAny_bind (wpAny_bind (J3.type.here ((PySem.W.looks_findIn I3.kIn hl).here ?_)))
  show wpAny _ X.A.in1 (rule "list.length-hint.len" >>= fun _ => (call (.builtin "len") [.ref a]).attempt >>= _) _ _ _
  refine wpAny_bind (wpAny_rule (wpAny_bind (wpAny_attempt (PySem.W.len_K hF3 I3.ok.mod.kin J3 hl hg (wpAny_mono (run_at (A' := X.A.in1.in1) (Q := fun v H' => v = .int (xs.length : Nat) ∧ H' = upd H S (.lst [])) ⟨hr.in1.in1, rfl⟩ FL bL I3 (.cons (rref a) .nil)
    ⟨a, dx, fs, t, xs, rfl, ha1, hf, ht1, rfl, rfl⟩) (fun u s3 z => ?_) fun _ _ e => e)))))
  obtain ⟨v, H', I4, rv, rfl, rfl⟩ := z
  obtain ⟨tk, rfl⟩ := rv
  have hline := line63
  refine ⟨⟨by omega, by omega⟩, ?_⟩
  generalize hs4 : ({ s3 with toks := s3.toks + 1 } : Shared) = s4
  have I5 : Inv X (pins ++ pinsAt [it] s2.heap) σ (upd H S (.lst [])) s4 := by
    rw [← hs4]
    exact I4.tok _
  have hit4 : s4.heap.IsTupleIter it t 0 := ⟨oi, (I5.pin (it, oi) (List.mem_append_right _ (List.mem_append_right _ (mem_pinsAt (List.mem_singleton.mpr rfl) hoi)))).1, hci, hdi⟩
  have I6 := I5.unpinned
  -- the length is told: no way beyond the line
  show wpAny _ X.A.in1 (asInt? (.int ((xs.length : Nat) : Int) s3.toks) >>= _) _ _ _
  refine wpAny_bind (m := asInt? (.int ((xs.length : Nat) : Int) s3.toks)) (wpAny_pure ?_)
  have short : Builtin.List.listTooLong ((xs.length : Nat) : Int).toNat = false := by
    show decide _ = false
    exact decide_eq_false (by rw [Int.toNat_natCast]; omega)
  dsimp only
  rw [if_neg (by rw [short]; exact Bool.false_ne_true)]
  refine wpAny_pure ?_
  -- the rest, from any state in which the list still stands empty
  have rest : ∀ s5, Inv X pins σ (upd H S (.lst [])) s5 → s5.heap.IsTupleIter it t 0 → codeAny (model X.prog X.w) X.A (.builtin "list.extend.loop" ⟨[.ref S, .ref it, .ref S], []⟩)
      (fun r s' => r = .ok (.ret (.ref S)) ∧ ∃ us c, Inv X pins σ (upd H S (.lst xs)) s' ∧ Vals xs us ∧ s'.heap.get? S = some { cls := .type "list", data := .seq us.toArray c }) s5 := by
    intro s5 I7 h7
    obtain ⟨its, rv, pt, _⟩ := I7.tuple ht1
    have pt' : s5.heap.IsTuple t its.toArray := pt
    obtain ⟨_, its0, n0, r0, e0⟩ := I7.hok S _ upd_same
    cases r0
    have hSt : S ≠ t := by
      rintro rfl
      obtain ⟨o, ho, hc, _⟩ := pt'
      cases ho.symm.trans e0
      exact absurd (show Value.type "list" = Value.type "tuple" from hc) (by decide)
    have hSi : S ≠ it := fun z => by
      have q := fp.1
      rw [← z, upd_same] at q
      cases q
    have hn : its.toArray.size ≤ sizeLine := by
      rw [List.size_toArray, ← rv.length]
      exact len_ok
    refine codeAny_extend_loopS (Walks.tuple (A := X.A.in1) hr.hd it t (tup_apart pt' h7) its.toArray).toS hn S (fun z => (List.mem_cons.mp z).elim hSi fun z => hSt (List.mem_singleton.mp z)) _ _ 0 s5 #[] n0 rfl (Nat.zero_le _) ⟨h7, pt'⟩ e0 (ItemsOf.nil _) fun s6 acc c mv e6 items => ?_
    have same : acc = its.toArray := by
      refine Array.ext items.1 fun j h1 h2 => ?_
      have q := items.2 j acc[j] (by simp [h1])
      have q' : its.toArray[j]? = some its.toArray[j] := by simp [h2]
      exact Option.some.inj (q.symm.trans q')
    subst same
    obtain ⟨oi5, hoi5, _⟩ := id h7
    refine ⟨rfl, its, c, ?_, rv, e6⟩
    obtain ⟨hp6, g6, d6, t6, os6⟩ := s6
    obtain ⟨m1, m2, m3, m4, m5⟩ := mv
    obtain rfl : g6 = s5.gens := m2
    obtain rfl : d6 = s5.drawn := m3
    obtain rfl : os6 = s5.os := m4
    have J := filled (tk := t6) I7 upd_same fp (fun b o hb e => m1 b o hb e) e6 rv len_ok
    rw [upd_upd] at J
    exact J
  split
  · -- room is made: an item on, an item off
    obtain ⟨_, its0, n0, r0, e0⟩ := I6.hok S _ upd_same
    cases r0
    refine wpAny_bind (wpAny_rule (wpAny_bind ?_))
    show wpAny _ X.A.in1 (updateSeq S (·.push .none) >>= fun _ => updateSeq S (·.pop)) _ _ _
    refine wpAny_bind (wpAny_updateSeq e0 rfl ?_)
    have e1 := Heap.get?_update_self (Obj.mapSeq (·.push Value.none)) e0 rfl
    refine wpAny_updateSeq e1 rfl ?_
    have e2 := Heap.get?_update_self (Obj.mapSeq (·.pop)) e1 rfl
    have oth : ∀ b o, b ≠ S → s4.heap.get? b = some o → ((s4.heap.update S (Obj.mapSeq (·.push Value.none))).update S (Obj.mapSeq (·.pop))).get? b = some o :=
      fun b o hb e => (Heap.get?_update_other _ _ (Ne.symm hb)).trans ((Heap.get?_update_other _ _ (Ne.symm hb)).trans e)
    have I8 : Inv X pins σ (upd H S (.lst [])) { s4 with heap := (s4.heap.update S (Obj.mapSeq (·.push Value.none))).update S (Obj.mapSeq (·.pop)) } := by
      have J := I6.write (x := S) (e := S) (o := .lst []) (t' := s4.toks) (by rw [upd_same]; trivial) (.inl rfl) oth ⟨_, e2⟩ (list_new_ok (X := X) (its := []) e2 .nil (Nat.zero_le _))
      rw [upd_upd] at J
      exact J
    have hSi : it ≠ S := fun z => by
      have q := fp.1
      rw [z, upd_same] at q
      cases q
    refine wpAny_pure ⟨plainId_quiet F.plain_extend_loop _, codeAny_mono (rest _ I8 (hit4.at fun o e => oth it o hSi e)) fun r s' z => ?_⟩
    obtain ⟨rfl, us, c, J6, r6, e6⟩ := z
    show wpAny _ X.A (load S >>= _) _ _ s'
    exact wpAny_bind (wpAny_load e6 (wpAny_pure (h S us s' fS J6 r6)))
  · refine wpAny_pure ⟨plainId_quiet F.plain_extend_loop _, codeAny_mono (rest s4 I6 hit4) fun r s' z => ?_⟩
    obtain ⟨rfl, us, c, J6, r6, e6⟩ := z
    show wpAny _ X.A (load S >>= _) _ _ s'
    exact wpAny_bind (wpAny_load e6 (wpAny_pure (h S us s' fS J6 r6)))
/-- the items of *y, y a list, a tuple or an own iterable (then a list is left behind) -/
def tStarA (C : Addr) (f : Str) (K : PySem.W.Frag) (te : TE) (t : TA) : TA := fun σ H Q => te σ H fun y H1 => ∃ a xs, y = .ref a ∧ (((SqT K H1 a xs ∨ SqL K H1 a xs) ∧ t σ H1 fun vs H2 => Q (xs ++ vs) H2) ∨
  (∃ dx fs p, H1 a = some (.ins C dx fs) ∧ fs.lookup f = some (.ref p) ∧ SqT K H1 p xs ∧ ∀ S, H1 S = none → t σ (upd H1 S (.lst xs)) fun vs H2 => Q (xs ++ vs) H2))
theorem pa_starA {e : Expr} {es : List Expr} {te : TE} {tr : TA} {p : Pos} (G : OwnIt X C f k) (L : OwnLen X C f k) (hr : Room (k + 2) X.A) (he : PE X e te) (hs' : PA X es tr) (hs : starEach (.Starred e p :: es) X.env = (true, eval e X.env) :: starEach es X.env := by rfl) :
    PA X (.Starred e p :: es) (tStarA C f X.K te tr) := by
  refine ⟨fun pos pins s σ H Q I h => PySem.W.items_star (thn (he.run pins s σ H _ I h) fun v s1 ⟨y, H1, I1, ry, a, xs, ey, q⟩ => ?_) hs⟩
  subst ey
  cases ry
  rcases q with ⟨hq, q⟩ | ⟨dx, fs, p', ha, hf, ht, q⟩
  · exact StX.star_any I1 hq fun us s2 I2 rv => thn (hs'.run pos pins s2 σ H1 _ I2 q) fun ws s3 ⟨vs, H3, I3, r3, q3⟩ => ⟨xs ++ vs, H3, I3, rv.append r3, q3⟩
  · obtain ⟨od, J⟩ := inst_of I1 ha
    obtain ⟨g, fd, hi, hg, _⟩ := G.ex
    unfold PySem.W.StarOf
    unfold notIterableAtAll
    refine wpAny_bind (wpAny_bind (J.type.here ((PySem.W.looks_findIn I1.kIn hi).here ?_)))
    refine wpAny_pure ⟨rfl, collect_own G L hr I1 ha hf ht fun S us s2 hS I2 rv => ?_⟩
    exact thn (hs'.run pos pins s2 σ _ _ I2 (q S hS)) fun ws s3 ⟨vs, H3, I3, r3, q3⟩ => ⟨xs ++ vs, H3, I3, rv.append r3, q3⟩
end
end Sv
namespace L2
open PySem PySem.Spec PyProof.Rows
/-! ### what stays: of a store at a list or a dict, of a lock, of a fresh thing -/
def plainO : HO → Prop
  | .frz _ _ => False
  | _ => True
/-- all that is read stays (locks come and go) -/
structure Le (H H' : Hp) : Prop where
  rd : ∀ a u, plainO u → Rd H a u → Rd H' a u
  ins : ∀ a C dx fs, H a = some (.ins C dx fs) → H' a = some (.ins C dx fs)
/-- tuples and instances stay -/
structure Im (H H' : Hp) : Prop where
  tup : ∀ a xs, Rd H a (.tup xs) → Rd H' a (.tup xs)
  ins : ∀ a C dx fs, H a = some (.ins C dx fs) → H' a = some (.ins C dx fs)
theorem Rd.ext {H H' : Hp} {a : Addr} {u : HO} (e : Ext H H') (h : Rd H a u) : Rd H' a u := h.elim (fun h => .inl (e _ _ h)) fun ⟨o, h⟩ => .inr ⟨o, e _ _ h⟩
theorem Le.of {H H' : Hp} (e : Ext H H') : Le H H' := ⟨fun _ _ _ h => h.ext e, fun _ _ _ _ h => e _ _ h⟩
theorem Le.im {H H' : Hp} (e : Le H H') : Im H H' := ⟨fun a xs h => e.rd a _ True.intro h, e.ins⟩
theorem Im.of {H H' : Hp} (e : Ext H H') : Im H H' := (Le.of e).im
theorem Le.rfl' {H : Hp} : Le H H := .of Ext.rfl'
theorem Im.rfl' {H : Hp} : Im H H := .of Ext.rfl'
theorem Le.trans {H H1 H2 : Hp} (a : Le H H1) (b : Le H1 H2) : Le H H2 := ⟨fun p u n h => b.rd _ _ n (a.rd _ _ n h), fun p C dx fs h => b.ins _ _ _ _ (a.ins _ _ _ _ h)⟩
theorem Im.trans {H H1 H2 : Hp} (a : Im H H1) (b : Im H1 H2) : Im H H2 := ⟨fun p u h => b.tup _ _ (a.tup _ _ h), fun p C dx fs h => b.ins _ _ _ _ (a.ins _ _ _ _ h)⟩
theorem Le.lock {H : Hp} {d : Addr} {u : HO} {o : Obj} (h : H d = some u) (nu : plainO u) (ni : ∀ C dx fs, u ≠ .ins C dx fs) : Le H (upd H d (.frz o u)) := by
  refine ⟨fun a v nv r => ?_, fun a C dx fs e => ?_⟩
  · by_cases q : a = d
    · subst q
      rcases r with r | ⟨o', r⟩
      · rw [h] at r
        cases r
        exact .inr ⟨o, upd_same⟩
      · rw [h] at r
        cases r
        exact nu.elim
    · exact r.elim (fun r => .inl (by rw [upd_ne q]; exact r)) fun ⟨o', r⟩ => .inr ⟨o', by rw [upd_ne q]; exact r⟩
  · rw [upd_ne fun q => ?_]
    · exact e
    · rw [q, h] at e
      exact ni _ _ _ (Option.some.inj e)
theorem Le.unlock {H : Hp} {d : Addr} {u : HO} {o : Obj} (h : H d = some (.frz o u)) : Le H (upd H d u) := by
  refine ⟨fun a v nv r => ?_, fun a C dx fs e => ?_⟩
  · by_cases q : a = d
    · subst q
      rcases r with r | ⟨o', r⟩
      · rw [h] at r
        cases r
        exact nv.elim
      · rw [h] at r
        cases r
        exact .inl upd_same
    · exact r.elim (fun r => .inl (by rw [upd_ne q]; exact r)) fun ⟨o', r⟩ => .inr ⟨o', by rw [upd_ne q]; exact r⟩
  · rw [upd_ne fun q => ?_]
    · exact e
    · rw [q, h] at e
      cases e
/-- a thing that is no tuple and no instance -/
def looseO : HO → Prop
  | .tup _ => False
  | .ins _ _ _ => False
  | .frz _ (.tup _) => False
  | _ => True
theorem Im.put {H : Hp} {a : Addr} {u v : HO} (h : H a = some u) (l : looseO u) : Im H (upd H a v) := by
  refine ⟨fun b xs r => ?_, fun b C dx fs e => ?_⟩
  · have q : b ≠ a := fun q => by
      subst q
      rcases r with r | ⟨o, r⟩ <;> rw [h] at r <;> cases r <;> exact l
    exact r.elim (fun r => .inl (by rw [upd_ne q]; exact r)) fun ⟨o', r⟩ => .inr ⟨o', by rw [upd_ne q]; exact r⟩
  · rw [upd_ne fun q => ?_]
    · exact e
    · rw [q, h] at e
      cases e
      exact l
theorem Im.fresh {H : Hp} {a : Addr} {v : HO} (h : H a = none) : Im H (upd H a v) := .of (Ext.upd h)
/-- what was there ahead of H0's address L stays when L is written -/
theorem Ext.put {H0 H : Hp} {L : Addr} {o : HO} (x : Ext H0 H) (n : H0 L = none) : Ext H0 (L2.upd H L o) := fun a u e => by
  rw [upd_ne (ne_of_none e n)]
  exact x _ _ e
theorem Ext.non {H H' : Hp} {a : Addr} (x : Ext H H') (h : H' a = none) : H a = none := by
  cases e : H a with
  | none => rfl
  | some u =>
    rw [x _ _ e] at h
    cases h
/-! ### data -/
section
variable {K : PySem.W.Frag} {H H' : Hp}
/-- tuples stay -/
def Tu (H H' : Hp) : Prop := ∀ a xs, Rd H a (.tup xs) → Rd H' a (.tup xs)
theorem Im.tu (e : Im H H') : Tu H H' := e.tup
theorem SqT.tu {a : Addr} {xs : List V} (h : SqT K H a xs) (e : Tu H H') : SqT K H' a xs := h.imp (fun r => e _ _ r) id
theorem SqL.le {a : Addr} {xs : List V} (h : SqL K H a xs) (e : Le H H') : SqL K H' a xs := h.imp (fun r => e.rd _ _ True.intro r) id
theorem SqT.im {a : Addr} {xs : List V} (h : SqT K H a xs) (e : Im H H') : SqT K H' a xs := h.imp (fun r => e.tup _ _ r) id
theorem SqT.le {a : Addr} {xs : List V} (h : SqT K H a xs) (e : Le H H') : SqT K H' a xs := h.im e.im
mutual
theorem Dp.le (e : Le H H') : ∀ (d : PyData) (v : V), Dp K H v d → Dp K H' v d
  | _, _, .non => .non
  | _, _, .bl b => .bl b
  | _, _, .int i => .int i
  | _, _, .str x => .str x
  | .list ds, _, .lst h t => .lst (h.le e) (DpAll.le e ds _ t)
  | .tuple ds, _, .tup h t => .tup (h.le e) (DpAll.le e ds _ t)
theorem DpAll.le (e : Le H H') : ∀ (ds : List PyData) (vs : List V), DpAll K H vs ds → DpAll K H' vs ds
  | _, _, .nil => .nil
  | d :: ds, _, .cons h t => .cons (Dp.le e d _ h) (DpAll.le e ds _ t)
end
mutual
/-- no list within -/
def nl : PyData → Bool
  | .list _ => false
  | .tuple ds => nlAll ds
  | .dict _ => false
  | _ => true
def nlAll : List PyData → Bool
  | [] => true
  | d :: ds => nl d && nlAll ds
end
mutual
theorem Dp.tu (e : Tu H H') : ∀ (d : PyData) (v : V), nl d = true → Dp K H v d → Dp K H' v d
  | _, _, _, .non => .non
  | _, _, _, .bl b => .bl b
  | _, _, _, .int i => .int i
  | _, _, _, .str x => .str x
  | .list ds, _, n, .lst h t => by simp [nl] at n
  | .tuple ds, _, n, .tup h t => .tup (h.tu e) (DpAll.tu e ds _ (by simpa [nl] using n) t)
theorem DpAll.tu (e : Tu H H') : ∀ (ds : List PyData) (vs : List V), nlAll ds = true → DpAll K H vs ds → DpAll K H' vs ds
  | _, _, _, .nil => .nil
  | d :: ds, _, n, .cons h t => by
    simp only [nlAll, Bool.and_eq_true] at n
    exact .cons (Dp.tu e d _ n.1 h) (DpAll.tu e ds _ n.2 t)
end
theorem Dp.im (e : Im H H') (d : PyData) (v : V) (n : nl d = true) (h : Dp K H v d) : Dp K H' v d := Dp.tu e.tu d v n h
theorem DpAll.im (e : Im H H') (ds : List PyData) (vs : List V) (n : nlAll ds = true) (h : DpAll K H vs ds) : DpAll K H' vs ds := DpAll.tu e.tu ds vs n h
theorem Dp.ext {d : PyData} {v : V} (h : Dp K H v d) (e : Ext H H') : Dp K H' v d := Dp.le (.of e) d v h
theorem DpAll.ext {ds : List PyData} {vs : List V} (h : DpAll K H vs ds) (e : Ext H H') : DpAll K H' vs ds := DpAll.le (.of e) ds vs h
theorem DpAll.len : ∀ {vs : List V} {ds : List PyData}, DpAll K H vs ds → vs.length = ds.length
  | _, _, .nil => rfl
  | _, _, .cons _ t => by rw [List.length_cons, List.length_cons, DpAll.len t]
theorem DpAll.app : ∀ {vs ws : List V} {ds es : List PyData}, DpAll K H vs ds → DpAll K H ws es → DpAll K H (vs ++ ws) (ds ++ es)
  | _, _, _, _, .nil, q => q
  | _, _, _, _, .cons h t, q => .cons h (DpAll.app t q)
theorem DpAll.snoc {vs : List V} {ds : List PyData} {v : V} {d : PyData} (h : DpAll K H vs ds) (q : Dp K H v d) : DpAll K H (vs ++ [v]) (ds ++ [d]) := h.app (.cons q .nil)
theorem DpAll.get : ∀ {vs : List V} {ds : List PyData} {i : Nat} {v : V}, DpAll K H vs ds → vs[i]? = some v → ∃ d, ds[i]? = some d ∧ Dp K H v d
  | _, _, i, _, .nil, e => by simp at e
  | _, _, 0, _, .cons h t, e => by
    simp only [List.getElem?_cons_zero, Option.some.injEq] at e ⊢
    subst e
    exact ⟨_, rfl, h⟩
  | _, _, i + 1, _, .cons h t, e => by
    simp only [List.getElem?_cons_succ] at e ⊢
    exact DpAll.get t e
theorem DpAll.at : ∀ {vs : List V} {ds : List PyData} {i : Nat} {d : PyData}, DpAll K H vs ds → ds[i]? = some d → ∃ v, vs[i]? = some v ∧ Dp K H v d
  | _, _, i, _, .nil, e => by simp at e
  | _, _, 0, _, .cons h t, e => by
    simp only [List.getElem?_cons_zero, Option.some.injEq] at e ⊢
    subst e
    exact ⟨_, rfl, h⟩
  | _, _, i + 1, _, .cons h t, e => by
    simp only [List.getElem?_cons_succ] at e ⊢
    exact DpAll.at t e
theorem DpAll.take : ∀ {vs : List V} {ds : List PyData} (n : Nat), DpAll K H vs ds → DpAll K H (vs.take n) (ds.take n)
  | _, _, 0, _ => by simp; exact .nil
  | _, _, n + 1, .nil => .nil
  | _, _, n + 1, .cons h t => .cons h (DpAll.take n t)
theorem DpAll.drop : ∀ {vs : List V} {ds : List PyData} (n : Nat), DpAll K H vs ds → DpAll K H (vs.drop n) (ds.drop n)
  | _, _, 0, h => h
  | _, _, n + 1, .nil => .nil
  | _, _, n + 1, .cons h t => DpAll.drop n t
theorem DpAll.insIdx : ∀ {vs : List V} {ds : List PyData} {v : V} {d : PyData} (n : Nat), DpAll K H vs ds → Dp K H v d → DpAll K H (vs.insertIdx n v) (ds.insertIdx n d)
  | _, _, _, _, 0, h, q => .cons q h
  | _, _, _, _, n + 1, .nil, q => .nil
  | _, _, _, _, n + 1, .cons h t, q => .cons h (DpAll.insIdx n t q)
theorem Dp.tupI {v : V} {ds : List PyData} (h : Dp K H v (.tuple ds)) : ∃ a xs, v = .ref a ∧ SqT K H a xs ∧ DpAll K H xs ds := by
  cases h with
  | tup s t => exact ⟨_, _, rfl, s, t⟩
theorem Dp.lstI {v : V} {ds : List PyData} (h : Dp K H v (.list ds)) : ∃ a xs, v = .ref a ∧ SqL K H a xs ∧ DpAll K H xs ds := by
  cases h with
  | lst s t => exact ⟨_, _, rfl, s, t⟩
theorem Dp.intI {v : V} {i : Int} (h : Dp K H v (.int i)) : v = .int i := by
  cases h with
  | int => rfl
theorem Dp.strI {v : V} {x : Str} (h : Dp K H v (.str x)) : v = .str x := by
  cases h with
  | str => rfl
theorem Dp.nonI {v : V} (h : Dp K H v .none) : v = .non := by
  cases h with
  | non => rfl
theorem DpAll.one {vs : List V} {d : PyData} (h : DpAll K H vs [d]) : ∃ v, vs = [v] ∧ Dp K H v d := by
  cases h with
  | cons a t => cases t; exact ⟨_, rfl, a⟩
theorem DpAll.two {vs : List V} {d e : PyData} (h : DpAll K H vs [d, e]) : ∃ v u, vs = [v, u] ∧ Dp K H v d ∧ Dp K H u e := by
  cases h with
  | cons a t =>
    obtain ⟨u, rfl, b⟩ := t.one
    exact ⟨_, _, rfl, a, b⟩
theorem DpAll.three {vs : List V} {d e f : PyData} (h : DpAll K H vs [d, e, f]) : ∃ v u x, vs = [v, u, x] ∧ Dp K H v d ∧ Dp K H u e ∧ Dp K H x f := by
  cases h with
  | cons a t =>
    obtain ⟨u, x, rfl, b, c⟩ := t.two
    exact ⟨_, _, _, rfl, a, b, c⟩
theorem DpAll.four {vs : List V} {d e f g : PyData} (h : DpAll K H vs [d, e, f, g]) : ∃ v u x y, vs = [v, u, x, y] ∧ Dp K H v d ∧ Dp K H u e ∧ Dp K H x f ∧ Dp K H y g := by
  cases h with
  | cons a t =>
    obtain ⟨u, x, y, rfl, b, c⟩ := t.three
    exact ⟨_, _, _, _, rfl, a, b, c⟩
theorem DpAll.ints : ∀ (ns : List Int), DpAll K H (ns.map V.int) (ns.map PyData.int)
  | [] => .nil
  | n :: ns => .cons (.int n) (DpAll.ints ns)
theorem DpAll.intsI : ∀ {vs : List V} {ns : List Int}, DpAll K H vs (ns.map PyData.int) → vs = ns.map V.int
  | _, [], h => by cases h; rfl
  | _, n :: ns, h => by
    cases h with
    | cons a t =>
      rw [Dp.intI a, DpAll.intsI t]
      rfl
/-- a whole number or nothing -/
def oI : Option Int → PyData
  | none => .none
  | some i => .int i
def oV : Option Int → V
  | none => .non
  | some i => .int i
theorem dp_o (o : Option Int) : Dp K H (oV o) (oI o) := by
  cases o
  · exact .non
  · exact .int _
theorem Dp.oIi {v : V} {o : Option Int} (h : Dp K H v (oI o)) : v = oV o := by
  cases o
  · exact h.nonI
  · exact h.intI
theorem DpAll.os : ∀ (ns : List (Option Int)), DpAll K H (ns.map oV) (ns.map oI)
  | [] => .nil
  | n :: ns => .cons (dp_o n) (DpAll.os ns)
theorem DpAll.osI : ∀ {vs : List V} {ns : List (Option Int)}, DpAll K H vs (ns.map oI) → vs = ns.map oV
  | _, [], h => by cases h; rfl
  | _, n :: ns, h => by
    cases h with
    | cons a t =>
      rw [Dp.oIi a, DpAll.osI t]
      rfl
end
/-! ### what == tells of data without truth values -/
mutual
def nb : PyData → Bool
  | .bool _ => false
  | .list ds => nbAll ds
  | .tuple ds => nbAll ds
  | .dict _ => false
  | _ => true
def nbAll : List PyData → Bool
  | [] => true
  | d :: ds => nb d && nbAll ds
end
mutual
theorem eqv_iff : ∀ (d e : PyData), nb d = true → nb e = true → (PyData.eqv d e = true ↔ d = e)
  | .none, e, _, he => by cases e <;> simp_all [PyData.eqv, nb]
  | .bool _, e, hd, _ => by simp [nb] at hd
  | .int i, e, _, he => by cases e <;> simp_all [PyData.eqv, nb]
  | .str x, e, _, he => by cases e <;> simp_all [PyData.eqv, nb]
  | .list ds, .list es, hd, he => by
    rw [PyData.eqv, eqvAll_iff ds es (by simpa [nb] using hd) (by simpa [nb] using he)]
    simp
  | .tuple ds, .tuple es, hd, he => by
    rw [PyData.eqv, eqvAll_iff ds es (by simpa [nb] using hd) (by simpa [nb] using he)]
    simp
  | .list ds, .none, _, _ => by simp [PyData.eqv]
  | .list ds, .bool _, _, _ => by simp [PyData.eqv]
  | .list ds, .int _, _, _ => by simp [PyData.eqv]
  | .list ds, .str _, _, _ => by simp [PyData.eqv]
  | .list ds, .tuple _, _, _ => by simp [PyData.eqv]
  | .list ds, .dict _, _, _ => by simp [PyData.eqv]
  | .tuple ds, .none, _, _ => by simp [PyData.eqv]
  | .tuple ds, .bool _, _, _ => by simp [PyData.eqv]
  | .tuple ds, .int _, _, _ => by simp [PyData.eqv]
  | .tuple ds, .str _, _, _ => by simp [PyData.eqv]
  | .tuple ds, .list _, _, _ => by simp [PyData.eqv]
  | .tuple ds, .dict _, _, _ => by simp [PyData.eqv]
  | .dict _, e, hd, _ => by simp [nb] at hd
theorem eqvAll_iff : ∀ (ds es : List PyData), nbAll ds = true → nbAll es = true → (PyData.eqvAll ds es = true ↔ ds = es)
  | [], [], _, _ => by simp [PyData.eqvAll]
  | [], _ :: _, _, _ => by simp [PyData.eqvAll]
  | _ :: _, [], _, _ => by simp [PyData.eqvAll]
  | d :: ds, e :: es, hd, he => by
    simp only [nbAll, Bool.and_eq_true] at hd he
    rw [PyData.eqvAll, Bool.and_eq_true, eqv_iff d e hd.1 he.1, eqvAll_iff ds es hd.2 he.2]
    simp
end
theorem eqv_dec {d e : PyData} (hd : nb d = true) (he : nb e = true) {p : Prop} [Decidable p] (h : d = e ↔ p) : PyData.eqv d e = decide p := by
  have q := eqv_iff d e hd he
  by_cases hp : p
  · rw [decide_eq_true hp]
    exact q.2 (h.2 hp)
  · rw [decide_eq_false hp]
    cases z : PyData.eqv d e with
    | false => rfl
    | true => exact absurd (h.1 (q.1 z)) hp
/-- laid flat: what canLay0 and the depth ask of a list's items -/
theorem canAll_of : ∀ {ds : List PyData}, (∀ d ∈ ds, PyData.canLay0 d = true) → PyData.canLayAll0 ds = true
  | [], _ => rfl
  | d :: ds, h => by
    simp only [PyData.canLayAll0, Bool.and_eq_true]
    exact ⟨h d List.mem_cons_self, canAll_of fun x hx => h x (List.mem_cons_of_mem _ hx)⟩
theorem depthAll_of {n : Nat} : ∀ {ds : List PyData}, (∀ d ∈ ds, PyData.depth d ≤ n) → PyData.depthAll ds ≤ n
  | [], _ => by simp [PyData.depthAll]
  | d :: ds, h => by
    simp only [PyData.depthAll]
    have a := h d List.mem_cons_self
    have b := depthAll_of (n := n) (ds := ds) fun x hx => h x (List.mem_cons_of_mem _ hx)
    omega
/-- shaped, with room for k more levels -/
def shp (k : Nat) (d : PyData) : Prop := PyData.canLay0 d = true ∧ PyData.depth d ≤ k
theorem shp.ed {k : Nat} {d : PyData} (h : shp k d) (hk : k ≤ 64) : SeqAt.shaped d = true := by
  unfold SeqAt.shaped
  rw [h.1, decide_eq_true (Nat.le_trans h.2 hk)]
  rfl
theorem shp.lst {k : Nat} {ds : List PyData} (h : ∀ d ∈ ds, shp k d) : shp (k + 1) (.list ds) := by
  refine ⟨by rw [PyData.canLay0]; exact canAll_of fun d hd => (h d hd).1, ?_⟩
  have q := depthAll_of fun d hd => (h d hd).2
  simp only [PyData.depth]
  omega
theorem shp.tup {k : Nat} {ds : List PyData} (h : ∀ d ∈ ds, shp k d) : shp (k + 1) (.tuple ds) := by
  refine ⟨by rw [PyData.canLay0]; exact canAll_of fun d hd => (h d hd).1, ?_⟩
  have q := depthAll_of fun d hd => (h d hd).2
  simp only [PyData.depth]
  omega
theorem shp.int (i : Int) (k : Nat) : shp k (.int i) := ⟨rfl, Nat.zero_le _⟩
theorem shp.non (k : Nat) : shp k .none := ⟨rfl, Nat.zero_le _⟩
theorem shp.o (o : Option Int) (k : Nat) : shp k (oI o) := by
  cases o
  · exact .non k
  · exact .int _ k
theorem shp.mono {k j : Nat} {d : PyData} (h : shp k d) (e : k ≤ j) : shp j d := ⟨h.1, Nat.le_trans h.2 e⟩
end L2
namespace Sv
open PySem PySem.Spec PyProof.Rows L2
/-! ### {e for x in xs}, e an int -/
section
variable {X : Cx}
/-- what the block's turns give: the i-th the number xs[i], the heap but for the set as it stood -/
def tScI (w : World) (wi : TI) (g : TG) (te : TE) (vs : List Nat) : TE := fun σ H Q => wi σ H fun J H1 => ∃ xs : List Int, xs.length < 4000 ∧ ∀ D, H1 D = none →
  (∀ S m, J.stop xs.length (upd H1 D (SetO w D S m))) ∧
  (∀ i k S m, xs[i]? = some k → J.go i (upd H1 D (SetO w D S m)) ∧ ∀ x H', J.yld i (upd H1 D (SetO w D S m)) x H' → g x (wipe σ vs) H' fun σ2 H2 => wipe σ2 vs = wipe σ vs ∧ te σ2 H2 fun y H3 => y = .int k ∧ H3 = upd H1 D (SetO w D S m)) ∧
  (∀ S m, m ≤ xs.length → (∀ k, S k = true ↔ k ∈ xs) → Q (.ref D) (upd H1 D (SetO w D S m)))
theorem add_int {pins : List (Addr × Obj)} {σ : L2.St} {H : Hp} {s : Shared} {E : Value → Shared → Prop} {D : Addr} {S : Int → Bool} {n : Nat} {k : Int} {u : Value} {Q : Value → Shared → Prop} (I : Inv X pins σ H s) (hD : H D = some (SetO X.w D S n)) (room : n + 1 < scanBound) (r : RelV (.int k) u)
    (h : ∀ s', Inv X pins σ (upd H D (SetO X.w D (fun j => S j || decide (j = k)) (if S k = true then n else n + 1))) s' → Q .none s') : wpAny (model X.prog X.w) X.A (call (.builtin "set.add") [.ref D, u]) Q E s := by
  obtain ⟨tk, rfl⟩ := r
  refine setR_add (setO_get I hD) room fun h' sb new => h _ ?_
  obtain ⟨o, _, _, _, ho, _⟩ := id new
  exact I.write (e := D) (t' := s.toks + 1) (by rw [hD]; trivial) (.inl rfl) (fun b u hb hu => (sb.2 b hb).trans hu) ⟨o, ho⟩ (setO_new new)
/-- the set behind i turns -/
def scW (w : World) (H1 : Hp) (D : Addr) (xs : List Int) (i : Nat) (H : Hp) : Prop := i ≤ xs.length ∧ ∃ S m, H = upd H1 D (SetO w D S m) ∧ m ≤ i ∧ ∀ k, S k = true ↔ k ∈ xs.take i
theorem scW_next {w : World} {H1 : Hp} {D : Addr} {xs : List Int} {i : Nat} {k : Int} {S : Int → Bool} {m : Nat} (hk : xs[i]? = some k) (hm : m ≤ i) (hS : ∀ k, S k = true ↔ k ∈ xs.take i) :
    scW w H1 D xs (i + 1) (upd (upd H1 D (SetO w D S m)) D (SetO w D (fun j => S j || decide (j = k)) (if S k = true then m else m + 1))) := by
  refine ⟨(List.getElem?_eq_some_iff.mp hk).1, _, _, upd_upd .., by split <;> omega, fun j => ?_⟩
  rw [List.take_add_one, hk, List.mem_append, ← hS j]
  simp
theorem sc_int {pins : List (Addr × Obj)} {s : Shared} {σ : L2.St} {H : Hp} {Q : VK} {elt tg iter : Expr} {scope : Scope} {own : List (PySem.Str × Nat)} {pos pos' : Pos} {wi : TI} {g : TG} {te : TE} {use : Option (Value → Sem Unit)} {Qf : Value → Shared → Prop}
    (hc : X.calm = true) (hN : X.N.Nodup) (I : Inv X pins σ H s) (hi : PI X tg iter wi) (ok : BlkOk X.N X.env.scope scope own)
    (hg : ∀ (s : Shared) (H : Hp) (C : Addr) (cl : List (PySem.Str × Addr)) (fp : List Addr), PG (X.blk s H scope (compEnvC scope cl C X.env) fp) tg g)
    (he : ∀ (s : Shared) (H : Hp) (C : Addr) (cl : List (PySem.Str × Addr)) (fp : List Addr), PE (X.blk s H scope (compEnvC scope cl C X.env) fp) elt te) (hs : ∀ x, foldedSetIterable iter X.env x = pure x)
    (h : tScI X.w wi g te (own.map (·.2)) σ H Q)
    (hRR : ∀ D C s' m H', Inv X pins σ H' s' → Q (.ref D) H' → s'.heap.Ns C m → FpOk X pins H' C → compPost (model X.prog X.w) X.A X.xe use Qf (.ref D) C (.ok .next) s') :
    wpAny (model X.prog X.w) X.A (comprehension (.SetComp elt [⟨tg, iter, [], 0⟩] scope pos) scope X.env pos' (newSet (.type "set")) false (eval iter X.env) use) Qf X.xe s := by
  have frees : ∀ y ∈ scope.names, y.2 = .free → ∃ c, X.env.cells.lookup y.1 = some c := fun y hy e => (ok.free y hy e).elim (fun k => I.ok.has _ (.inl k)) fun k => I.ok.has _ (.inr k)
  refine wpAny_comprehension_free (use := use) rfl hs (closure_ok frees) ok.kind (fun y hy e => by rw [ok.uniq y hy, e]) (thn (hi.run pins s σ H _ I h) fun xv s1 hx => thn hx fun itv s2 h2 => ?_)
  obtain ⟨it, fp, tn, J, H2, rfl, I2, T, st2, f2, xs, hlen, all⟩ := h2
  refine PpSet.newSet_ok (newEnv_comp ?_)
  generalize hD : s2.heap.objs.size = D
  have dn : H2 D = none := I2.hok.fresh (Nat.le_of_eq hD)
  obtain ⟨stop, step, last⟩ := all D dn
  generalize hs3 : ({ s2 with heap := s2.heap.push { cls := .type "set", dict := none, data := .set #[] 0 (.fresh 0 0 (!X.w.params.followText "set-order")) } } : Shared) = s3
  have h3 : s3.heap = s2.heap.push { cls := .type "set", dict := none, data := .set #[] 0 (.fresh 0 0 (!X.w.params.followText "set-order")) } := by rw [← hs3]
  generalize hH3 : upd H2 D (SetO X.w D (fun _ => false) 0) = H3
  have I3 : Inv X pins σ H3 s3 := by
    rw [← hs3, ← hH3]
    refine I2.laid (t' := s2.toks) (fun b o e => Heap.get?_push_of_some _ e) (Nat.le_of_eq hD) ?_
    rw [← hD]
    exact setO_new (setR_fresh X.w)
  have low : ∀ b ∈ fp, b < s2.heap.objs.size := fun b hb => by
    obtain ⟨o, e, _⟩ := T.obj _ _ st2 b hb
    exact Heap.lt_size e
  have f3 : ∀ b ∈ fp, FpOk X pins H3 b ∧ b < s3.heap.objs.size := fun b hb => by
    refine ⟨⟨?_, (f2 b hb).2⟩, by rw [h3, Heap.size_push]; exact Nat.lt_succ_of_lt (low b hb)⟩
    rw [← hH3, upd_ne (by rw [← hD]; exact Nat.ne_of_lt (low b hb))]
    exact (f2 b hb).1
  have st3 : tn 0 s3.heap := T.keep _ _ _ st2 fun b _ o e => by rw [h3]; exact Heap.get?_push_of_some _ e
  have I4 := block_start I3 ok hN f3
  have pg := hg s3 H3 s3.heap.objs.size (cellsFrom (s3.heap.objs.size + 1) scope.names (cloFrom X.env.cells scope.names [])) fp
  have pe := he s3 H3 s3.heap.objs.size (cellsFrom (s3.heap.objs.size + 1) scope.names (cloFrom X.env.cells scope.names [])) fp
  show codeAny _ _ (.compStart (.SetComp elt [⟨tg, iter, [], 0⟩] scope pos) 0 (.ref it) (.ref D) (compEnvC scope (cellsFrom (s3.heap.objs.size + 1) scope.names (cloFrom X.env.cells scope.names [])) s3.heap.objs.size X.env)) (compPost (model X.prog X.w) X.A X.xe use Qf (.ref D) s3.heap.objs.size) { s3 with heap := pushCells (s3.heap.push { cls := .type "dict", data := .dict #[] }) scope.names }
  generalize hce : compEnvC scope (cellsFrom (s3.heap.objs.size + 1) scope.names (cloFrom X.env.cells scope.names [])) s3.heap.objs.size X.env = ce at I4 pg pe ⊢
  have cL : ce.locals = s3.heap.objs.size := by subst hce; rfl
  generalize hs4 : ({ s3 with heap := pushCells (s3.heap.push { cls := .type "dict", data := .dict #[] }) scope.names } : Shared) = s4 at I4 ⊢
  have st4 : tn 0 s4.heap := T.keep _ _ _ st3 fun b _ o e => by rw [← hs4]; exact pushCells_keeps _ _ _ _ (Heap.get?_push_of_some _ e)
  have fpk : ∀ {σ' : L2.St} {H' : Hp} {s' : Shared}, Inv (X.blk s3 H3 scope ce fp) [] σ' H' s' → (∀ b ∈ fp, H' b = none) → ∀ b ∈ fp, FpOk (X.blk s3 H3 scope ce fp) [] H' b := fun {σ' H' s'} I' hn b hb =>
    ⟨hn b hb, (I'.ok.exf b hb).1, I'.ok.exfs b hb, .inl hb, fun x c e => (I'.ok.exf b hb).2 x c e, fun p hp => absurd (show p ∈ ([] : List (Addr × Obj)) ++ [] from hp) (by simp)⟩
  have none_fp : ∀ {S : Int → Bool} {m : Nat}, ∀ b ∈ fp, (upd H2 D (SetO X.w D S m)) b = none := fun b hb => by
    rw [upd_ne (by rw [← hD]; exact Nat.ne_of_lt (low b hb))]
    exact (f2 b hb).1
  refine PpSet.codeAny_compStart_set ?_ (T.self X.A 0 _ _ _ st4 ?_)
  all_goals
    refine PpSet.compLoopS_any (fun n s' => ∃ i H', n = xs.length - i ∧ Inv (X.blk s3 H3 scope ce fp) [] (wipe σ (own.map (·.2))) H' s' ∧ tn i s'.heap ∧ scW X.w H2 D xs i H') ?_ xs.length
      ⟨0, H3, (Nat.sub_zero _).symm, I4, st4, Nat.zero_le _, _, 0, hH3.symm, Nat.le_refl _, by simp⟩
    rintro n s5 ⟨i, H5, rfl, I5, st5, hi5, S, m, rfl, hm, hS⟩
    rcases Nat.lt_or_ge i xs.length with hlt | hge
    · obtain ⟨go, turn⟩ := step i xs[i] S m (List.getElem?_eq_getElem hlt)
      have ti := T.item (X.blk s3 H3 scope ce fp) rfl rfl rfl hc i [] s5 _ _ (fun _ _ => False) I5 (fpk I5 none_fp) st5 go
      refine thnF ti fun r s6 ⟨u, hr, h6⟩ => ?_
      subst hr
      refine thnF h6 fun _ s7 ⟨x, H7, I7, r7, y7, st7, n7⟩ => ?_
      have I7' := I7.pinned (fpk I7 n7) (T.obj _ _ st7)
      refine thnF (pg.run _ s7 _ H7 x u _ I7' r7 (turn x H7 y7)) fun _ s8 ⟨σ8, H8, I8, hw8, q8⟩ => ?_
      refine thnF ((pts_nil (X := X.blk s3 H3 scope ce fp)).run _ s8 σ8 H8 (fun b H' => b = true ∧ te σ8 H' fun y H3 => y = .int xs[i] ∧ H3 = upd H2 D (SetO X.w D S m)) I8 ⟨rfl, q8⟩) fun b s9 ⟨H9, I9, hb, q9⟩ => ?_
      subst hb
      rw [if_pos rfl]
      refine thnF (pe.run _ s9 σ8 H9 _ I9 q9) fun z s10 ⟨yv, H10, I10, r10, ey, eH⟩ => ?_
      subst ey eH
      refine add_int (X := X.blk s3 H3 scope ce fp) I10 upd_same (by show m + 1 < 4096; omega) r10 fun s11 I11 => ?_
      have pin' : ∀ b ∈ fp, ∀ o, s7.heap.get? b = some o → s11.heap.get? b = some o := fun b hb o e => (I11.pin (b, o) (List.mem_append_right _ (List.mem_append_right _ (mem_pinsAt hb e)))).1
      refine ⟨xs.length - (i + 1), by omega, i + 1, _, rfl, (I11.unpinned (pins := [])).weak (by rw [← hw8, wipe_length]) (fun j v e => ?_), T.keep _ _ _ st7 fun b hb o e => pin' b hb o e, scW_next (List.getElem?_eq_getElem hlt) hm hS⟩
      rw [← hw8] at e
      exact (wipe_some e).1
    · obtain rfl : i = xs.length := by omega
      have td := T.done (X.blk s3 H3 scope ce fp) rfl rfl rfl hc xs.length [] s5 _ _ (fun _ _ => False) I5 (fpk I5 none_fp) st5 (stop S m)
      refine thnF td fun r s6 ⟨hr, I6⟩ => ?_
      subst hr
      have I7 : Inv X pins σ (upd H2 D (SetO X.w D S m)) s6 := I3.call' (ch := fp) I6.os I6.base I6.hok I6.bare fun b hb => ⟨(f3 b hb).1.2.2.2.1, (f3 b hb).1.2.1, (f3 b hb).1.2.2.2.2.1, (f3 b hb).1.2.2.2.2.2⟩
      have nC : upd H2 D (SetO X.w D S m) s3.heap.objs.size = none := by
        have z : upd H2 D (SetO X.w D S m) ce.locals = none := I6.free
        rw [cL] at z
        exact z
      obtain ⟨mm, hn, _⟩ := I6.loc
      have hn : s6.heap.Ns ce.locals mm := hn
      rw [cL] at hn
      refine hRR D s3.heap.objs.size s6 mm _ I7 (last S m hm fun k => ?_) hn (I3.fpOk (Nat.le_refl _) nC)
      rw [hS k, List.take_length]
theorem pe_scI {elt tg iter : Expr} {scope : Scope} {own : List (PySem.Str × Nat)} {pos : Pos} {wi : TI} {g : TG} {te : TE} (hc : X.calm = true) (hN : X.N.Nodup) (hi : PI X tg iter wi) (ok : BlkOk X.N X.env.scope scope own)
    (hg : ∀ (s : Shared) (H : Hp) (C : Addr) (cl : List (PySem.Str × Addr)) (fp : List Addr), PG (X.blk s H scope (compEnvC scope cl C X.env) fp) tg g)
    (he : ∀ (s : Shared) (H : Hp) (C : Addr) (cl : List (PySem.Str × Addr)) (fp : List Addr), PE (X.blk s H scope (compEnvC scope cl C X.env) fp) elt te) (hs : ∀ x, foldedSetIterable iter X.env x = pure x := by intro _; rfl) :
    PE X (.SetComp elt [⟨tg, iter, [], 0⟩] scope pos) (tScI X.w wi g te (own.map (·.2))) := by
  refine ⟨fun pins s σ H Q I h => ?_⟩
  rw [PpSet.eval_SetComp]
  refine sc_int hc hN I hi ok hg he hs h fun D C s' m H' I' q hn f => ⟨m, hn, fun h'' sb => ?_⟩
  exact ⟨.ref D, H', I'.turned (t' := s'.toks) (fun b o hb e => (sb.2 b hb).trans e) f.1 f.2.1 f.2.2.2.1 f.2.2.2.2.1 f.2.2.2.2.2, rfl, q⟩
end
end Sv
namespace Sv
open PySem PySem.Spec PyProof.Rows L2
/-! ### {k: v for .. in ..} whose keys are tuples -/
section
variable {X : Cx}
theorem put_tup {pins : List (Addr × Obj)} {σ : L2.St} {H : Hp} {s : Shared} {E : Value → Shared → Prop} {D b : Addr} {kvs : List (List Key × V)} {k : List Key} {v : V} {r : Value} {Q : Unit → Shared → Prop} (hu : X.A.units + 1 < cLine) (I : Inv X pins σ H s) (hD : H D = some (.dT kvs)) (hb : H b = some (.tup (k.map kV)))
    (hz : kvs.length < sizeLine) (rv : RelV v r) (h : ∀ s', Inv X pins σ (upd H D (.dT (putK kvs k v))) s' → Q () s') : wpAny (model X.prog X.w) X.A (dictSet D (.ref b) r) Q E s := by
  obtain ⟨z, hd, xs, rel, dd⟩ := dt_of I.hok hD
  have hzx : xs.length ≤ sizeLine := by rw [← Paired.length rel]; exact z
  have hl : (putK kvs k v).length ≤ sizeLine := by have := length_putK kvs k v; omega
  refine wpAny_dictSet_heap (hsz := hzx) (show X.A.units < cLine from Nat.lt_of_succ_lt hu) (key_of I.hok hb) dd fun h' dd' hs => h _ ?_
  obtain ⟨q, es, ep, hq, h2, h3, h4, _, h5⟩ := dd'
  refine d_write I (by rw [hD]; exact True.intro) hs ⟨q, hq⟩ ⟨hl, hd, _, (rel.put k hb rv).keeps fun c ys ec => ?_, q, es, ep, hq, h2, h3, h4, h5⟩
  rw [upd_ne (ne_of ec hD (fun z => nomatch z))]
  exact ec
/-- the new dict at D; a turn puts one pair, or none -/
def tDcT (wi : TI) (g : TG) (tt : TT) (tk tv : TE) (vs : List Nat) : TE := fun σ H Q => wi σ H fun J H1 => ∀ D, H1 D = none → ∃ (Pv : Nat → Hp → Prop) (n : Nat), Pv 0 (upd H1 D (.dT [])) ∧ (∀ H', Pv n H' → J.stop n H' ∧ Q (.ref D) H') ∧
  ∀ i H', i < n → Pv i H' → J.go i H' ∧ ∀ x H'', J.yld i H' x H'' → g x (wipe σ vs) H'' fun σ2 H2 => wipe σ2 vs = wipe σ vs ∧ tt σ2 H2 fun b H3 =>
    if b = true then tk σ2 H3 fun y H4 => tv σ2 H4 fun z H5 => ∃ kvs k b, y = .ref b ∧ H5 b = some (.tup (k.map kV)) ∧ H5 D = some (.dT kvs) ∧ kvs.length < sizeLine ∧ Pv (i + 1) (upd H5 D (.dT (putK kvs k z))) else Pv (i + 1) H3
theorem dc_tup {pins : List (Addr × Obj)} {s : Shared} {σ : L2.St} {H : Hp} {Q : VK} {kx vx tg iter : Expr} {ifs : List Expr} {scope : Scope} {own : List (PySem.Str × Nat)} {pos pos' : Pos} {wi : TI} {g : TG} {tt : TT} {tk tv : TE} {use : Option (Value → Sem Unit)} {Qf : Value → Shared → Prop}
    (hu : X.A.units + 1 < cLine) (hc : X.calm = true) (hN : X.N.Nodup) (I : Inv X pins σ H s) (hi : PI X tg iter wi) (ok : BlkOk X.N X.env.scope scope own)
    (hg : ∀ (s : Shared) (H : Hp) (C : Addr) (cl : List (PySem.Str × Addr)) (fp : List Addr), PG (X.blk s H scope (compEnvC scope cl C X.env) fp) tg g)
    (ht : ∀ (s : Shared) (H : Hp) (C : Addr) (cl : List (PySem.Str × Addr)) (fp : List Addr), PTs (X.blk s H scope (compEnvC scope cl C X.env) fp) ifs tt)
    (hk : ∀ (s : Shared) (H : Hp) (C : Addr) (cl : List (PySem.Str × Addr)) (fp : List Addr), PE (X.blk s H scope (compEnvC scope cl C X.env) fp) kx tk)
    (he : ∀ (s : Shared) (H : Hp) (C : Addr) (cl : List (PySem.Str × Addr)) (fp : List Addr), PE (X.blk s H scope (compEnvC scope cl C X.env) fp) vx tv) (hs : ∀ x, foldedSetIterable iter X.env x = pure x)
    (h : tDcT wi g tt tk tv (own.map (·.2)) σ H Q)
    (hRR : ∀ D C s' m H', Inv X pins σ H' s' → Q (.ref D) H' → s'.heap.Ns C m → FpOk X pins H' C → compPost (model X.prog X.w) X.A X.xe use Qf (.ref D) C (.ok .next) s') :
    wpAny (model X.prog X.w) X.A (comprehension (.DictComp kx vx [⟨tg, iter, ifs, 0⟩] scope pos) scope X.env pos' newDict false (eval iter X.env) use) Qf X.xe s := by
  have frees : ∀ y ∈ scope.names, y.2 = .free → ∃ c, X.env.cells.lookup y.1 = some c := fun y hy e => (ok.free y hy e).elim (fun k => I.ok.has _ (.inl k)) fun k => I.ok.has _ (.inr k)
  refine wpAny_comprehension_free (use := use) rfl hs (closure_ok frees) ok.kind (fun y hy e => by rw [ok.uniq y hy, e]) (thn (hi.run pins s σ H _ I h) fun xv s1 hx => thn hx fun itv s2 h2 => ?_)
  obtain ⟨it, fp, tn, J, H2, rfl, I2, T, st2, f2, all⟩ := h2
  refine wpAny_newObj_type (newEnv_comp ?_)
  generalize hD : s2.heap.objs.size = D
  have dn : H2 D = none := I2.hok.fresh (Nat.le_of_eq hD)
  obtain ⟨Pv, num, p0, stop, step⟩ := all D dn
  generalize hs3 : ({ s2 with heap := s2.heap.push { cls := .type "dict", data := .dict #[] } } : Shared) = s3
  have h3 : s3.heap = s2.heap.push { cls := .type "dict", data := .dict #[] } := by rw [← hs3]
  generalize hH3 : upd H2 D (.dT []) = H3 at p0
  have I3 : Inv X pins σ H3 s3 := by
    rw [← hs3, ← hH3]
    refine I2.laid (t' := s2.toks) (fun b o e => Heap.get?_push_of_some _ e) (Nat.le_of_eq hD) ?_
    rw [← hD]
    exact dt_empty s2.heap I2.big
  have low : ∀ b ∈ fp, b < s2.heap.objs.size := fun b hb => by
    obtain ⟨o, e, _⟩ := T.obj _ _ st2 b hb
    exact Heap.lt_size e
  have f3 : ∀ b ∈ fp, FpOk X pins H3 b ∧ b < s3.heap.objs.size := fun b hb => by
    refine ⟨⟨?_, (f2 b hb).2⟩, by rw [h3, Heap.size_push]; exact Nat.lt_succ_of_lt (low b hb)⟩
    rw [← hH3, upd_ne (by rw [← hD]; exact Nat.ne_of_lt (low b hb))]
    exact (f2 b hb).1
  have st3 : tn 0 s3.heap := T.keep _ _ _ st2 fun b _ o e => by rw [h3]; exact Heap.get?_push_of_some _ e
  have I4 := block_start I3 ok hN f3
  have pg := hg s3 H3 s3.heap.objs.size (cellsFrom (s3.heap.objs.size + 1) scope.names (cloFrom X.env.cells scope.names [])) fp
  have pt := ht s3 H3 s3.heap.objs.size (cellsFrom (s3.heap.objs.size + 1) scope.names (cloFrom X.env.cells scope.names [])) fp
  have pk := hk s3 H3 s3.heap.objs.size (cellsFrom (s3.heap.objs.size + 1) scope.names (cloFrom X.env.cells scope.names [])) fp
  have pe := he s3 H3 s3.heap.objs.size (cellsFrom (s3.heap.objs.size + 1) scope.names (cloFrom X.env.cells scope.names [])) fp
  show codeAny _ _ (.compStart (.DictComp kx vx [⟨tg, iter, ifs, 0⟩] scope pos) 0 (.ref it) (.ref D) (compEnvC scope (cellsFrom (s3.heap.objs.size + 1) scope.names (cloFrom X.env.cells scope.names [])) s3.heap.objs.size X.env)) (compPost (model X.prog X.w) X.A X.xe use Qf (.ref D) s3.heap.objs.size) { s3 with heap := pushCells (s3.heap.push { cls := .type "dict", data := .dict #[] }) scope.names }
  have nfp : ∀ b ∈ fp, H3 b = none := fun b hb => (f3 b hb).1.1
  generalize hce : compEnvC scope (cellsFrom (s3.heap.objs.size + 1) scope.names (cloFrom X.env.cells scope.names [])) s3.heap.objs.size X.env = ce at I4 pg pt pk pe ⊢
  have cL : ce.locals = s3.heap.objs.size := by subst hce; rfl
  generalize hs4 : ({ s3 with heap := pushCells (s3.heap.push { cls := .type "dict", data := .dict #[] }) scope.names } : Shared) = s4 at I4 ⊢
  have st4 : tn 0 s4.heap := T.keep _ _ _ st3 fun b _ o e => by rw [← hs4]; exact pushCells_keeps _ _ _ _ (Heap.get?_push_of_some _ e)
  have fpk : ∀ {σ' : L2.St} {H' : Hp} {s' : Shared}, Inv (X.blk s3 H3 scope ce fp) [] σ' H' s' → (∀ b ∈ fp, H' b = none) → ∀ b ∈ fp, FpOk (X.blk s3 H3 scope ce fp) [] H' b := fun {σ' H' s'} I' hn b hb =>
    ⟨hn b hb, (I'.ok.exf b hb).1, I'.ok.exfs b hb, .inl hb, fun x c e => (I'.ok.exf b hb).2 x c e, fun p hp => absurd (show p ∈ ([] : List (Addr × Obj)) ++ [] from hp) (by simp)⟩
  have loop : codeAny (model X.prog X.w) X.A (.compLoop (.DictComp kx vx [⟨tg, iter, ifs, 0⟩] scope pos) 0 (.ref it) (.ref D) ce) (compPost (model X.prog X.w) X.A X.xe use Qf (.ref D) s3.heap.objs.size) s4 := by
    refine compLoop_anyD (fun n s' => ∃ i H', n = num - i ∧ i ≤ num ∧ Inv (X.blk s3 H3 scope ce fp) [] (wipe σ (own.map (·.2))) H' s' ∧ tn i s'.heap ∧ (∀ b ∈ fp, H' b = none) ∧ Pv i H') ?_ num ⟨0, H3, (Nat.sub_zero _).symm, Nat.zero_le _, I4, st4, nfp, p0⟩
    rintro n s5 ⟨i, H5, rfl, hi5, I5, st5, n5, w5⟩
    rcases Nat.lt_or_ge i num with hlt | hge
    · obtain ⟨go, turn⟩ := step i H5 hlt w5
      refine thnF (T.item (X.blk s3 H3 scope ce fp) rfl rfl rfl hc i [] s5 _ H5 (fun _ _ => False) I5 (fpk I5 n5) st5 go) fun r s6 ⟨u, hr, h6⟩ => ?_
      subst hr
      refine thnF h6 fun _ s7 ⟨x, H7, I7, r7, y7, st7, n7⟩ => ?_
      refine thnF (pg.run _ s7 _ H7 x u _ (I7.pinned (fpk I7 n7) (T.obj _ _ st7)) r7 (turn x H7 y7)) fun _ s8 ⟨σ8, H8, I8, hw8, q8⟩ => ?_
      refine thnF (pt.run _ s8 σ8 H8 _ I8 q8) fun b s9 ⟨H9, I9, q9⟩ => ?_
      have next : ∀ {s' : Shared} {H' : Hp}, Inv (X.blk s3 H3 scope ce fp) ([] ++ pinsAt fp s7.heap) σ8 H' s' → Pv (i + 1) H' →
          ∃ m, m < num - i ∧ ∃ i H', m = num - i ∧ i ≤ num ∧ Inv (X.blk s3 H3 scope ce fp) [] (wipe σ (own.map (·.2))) H' s' ∧ tn i s'.heap ∧ (∀ b ∈ fp, H' b = none) ∧ Pv i H' := fun {s' H'} I' p' => by
        have pin' : ∀ b ∈ fp, ∀ o, s7.heap.get? b = some o → s'.heap.get? b = some o ∧ H' b = none := fun b hb o e =>
          let z := I'.pin (b, o) (List.mem_append_right _ (List.mem_append_right _ (mem_pinsAt hb e)))
          ⟨z.1, z.2.1⟩
        refine ⟨num - (i + 1), by omega, i + 1, H', rfl, hlt, (I'.unpinned (pins := [])).weak (by rw [← hw8, wipe_length]) (fun j v e => ?_), T.keep _ _ _ st7 fun b hb o e => (pin' b hb o e).1, fun b hb => ?_, p'⟩
        · rw [← hw8] at e
          exact (wipe_some e).1
        · obtain ⟨o, e, _⟩ := T.obj _ _ st7 b hb
          exact (pin' b hb o e).2
      cases b with
      | false =>
        rw [if_neg Bool.false_ne_true] at q9 ⊢
        exact next I9 q9
      | true =>
        rw [if_pos rfl] at q9 ⊢
        refine thnF (pk.run _ s9 σ8 H9 _ I9 q9) fun z s10 ⟨yk, H10, I10, r10, q10⟩ => ?_
        refine thnF (pe.run _ s10 σ8 H10 _ I10 q10) fun z2 s11 ⟨yv, H11, I11, r11, kvs, k, kb, ek, hb11, hD11, hz11, nx⟩ => ?_
        subst ek
        cases r10
        exact put_tup (X := X.blk s3 H3 scope ce fp) hu I11 hD11 hb11 hz11 r11 fun s12 I12 => next I12 nx
    · obtain rfl : i = num := by omega
      obtain ⟨js, qq⟩ := stop H5 w5
      refine thnF (T.done (X.blk s3 H3 scope ce fp) rfl rfl rfl hc i [] s5 _ H5 (fun _ _ => False) I5 (fpk I5 n5) st5 js) fun r s6 ⟨hr, I6⟩ => ?_
      subst hr
      have I7 : Inv X pins σ H5 s6 := I3.call' (ch := fp) I6.os I6.base I6.hok I6.bare fun b hb => ⟨(f3 b hb).1.2.2.2.1, (f3 b hb).1.2.1, (f3 b hb).1.2.2.2.2.1, (f3 b hb).1.2.2.2.2.2⟩
      have nC : H5 s3.heap.objs.size = none := by
        have z : H5 ce.locals = none := I6.free
        rw [cL] at z
        exact z
      obtain ⟨m, hn, _⟩ := I6.loc
      have hn : s6.heap.Ns ce.locals m := hn
      rw [cL] at hn
      exact hRR D s3.heap.objs.size s6 m H5 I7 qq hn (I3.fpOk (Nat.le_refl _) nC)
  exact codeAny_compStart_dict loop (T.self X.A 0 _ _ _ st4 loop)
theorem pe_dcT {kx vx tg iter : Expr} {ifs : List Expr} {scope : Scope} {own : List (PySem.Str × Nat)} {pos : Pos} {wi : TI} {g : TG} {tt : TT} {tk tv : TE} (hu : X.A.units + 1 < cLine) (hc : X.calm = true) (hN : X.N.Nodup) (hi : PI X tg iter wi) (ok : BlkOk X.N X.env.scope scope own)
    (hg : ∀ (s : Shared) (H : Hp) (C : Addr) (cl : List (PySem.Str × Addr)) (fp : List Addr), PG (X.blk s H scope (compEnvC scope cl C X.env) fp) tg g)
    (ht : ∀ (s : Shared) (H : Hp) (C : Addr) (cl : List (PySem.Str × Addr)) (fp : List Addr), PTs (X.blk s H scope (compEnvC scope cl C X.env) fp) ifs tt)
    (hk : ∀ (s : Shared) (H : Hp) (C : Addr) (cl : List (PySem.Str × Addr)) (fp : List Addr), PE (X.blk s H scope (compEnvC scope cl C X.env) fp) kx tk)
    (he : ∀ (s : Shared) (H : Hp) (C : Addr) (cl : List (PySem.Str × Addr)) (fp : List Addr), PE (X.blk s H scope (compEnvC scope cl C X.env) fp) vx tv) (hs : ∀ x, foldedSetIterable iter X.env x = pure x := by intro _; rfl) :
    PE X (.DictComp kx vx [⟨tg, iter, ifs, 0⟩] scope pos) (tDcT wi g tt tk tv (own.map (·.2))) := by
  refine ⟨fun pins s σ H Q I h => ?_⟩
  rw [arm_eval_DictComp]
  refine dc_tup hu hc hN I hi ok hg ht hk he hs h fun D C s' m H' I' q hn f => ⟨m, hn, fun h'' sb => ?_⟩
  exact ⟨.ref D, H', I'.turned (t' := s'.toks) (fun b o hb e => (sb.2 b hb).trans e) f.1 f.2.1 f.2.2.2.1 f.2.2.2.2.1 f.2.2.2.2.2, rfl, q⟩
/-- what the name gets -/
theorem named {pins : List (Addr × Obj)} {σ : L2.St} {H' : Hp} {s' : Shared} {i : Nat} {y : PySem.Str} {py : Pos} {D : Ends} {L C : Addr} {m : PySem.Str → Option Value} (hN : X.N.Nodup) (hy : X.N[i]? = some y) (hyl : X.env.scope.names.lookup y = some .local)
    (I' : Inv X pins σ H' s') (q : gName i (.ref L) σ H' D.nx) (hn : s'.heap.Ns C m) (f : FpOk X pins H' C) :
    wpAny (model X.prog X.w) X.A (assign (.Name y py) X.env (.ref L)) (fun _ s2 => ∃ m, s2.heap.Ns C m ∧ ∀ h3, Heap.SameBut C s2.heap h3 → SP X pins D .next { s2 with heap := h3 }) X.xe s' := by
  refine wpAny_assign_Name (store_ok2 (v := V.ref L) I' hN hy (.inl hyl) rfl (fun s2 I2 ⟨a, sb, ha⟩ => ?_) (.inr hyl))
  obtain ⟨f0, f1, f2, f3, f4, f5⟩ := f
  have haC : C ≠ a := by
    rcases ha with z | z
    · rw [z]; exact f1
    · exact fun e => f4 y a z e.symm
  refine ⟨m, hn.sameBut sb haC, fun h3 sb3 => ?_⟩
  exact ⟨_, H', I2.turned (t' := s2.toks) (fun b o hb e => (sb3.2 b hb).trans e) f0 f1 f3 f4 f5, q⟩
theorem ps_setDc {i : Nat} {y : PySem.Str} {py : Pos} {kx vx tg iter : Expr} {ifs : List Expr} {scope : Scope} {own : List (PySem.Str × Nat)} {pos spos : Pos} {wi : TI} {g : TG} {tt : TT} {tk tv : TE} (hc : X.calm = true) (hN : X.N.Nodup) (hy : X.N[i]? = some y) (hyl : X.env.scope.names.lookup y = some .local)
    (hsw : swapsWith (.DictComp kx vx [⟨tg, iter, ifs, 0⟩] scope pos) (some (.Name y py)) spos.line X.env = pure true) (hi : PI X tg iter wi) (ok : BlkOk X.N X.env.scope scope own)
    (hg : ∀ (s : Shared) (H : Hp) (C : Addr) (cl : List (PySem.Str × Addr)) (fp : List Addr), PG (X.blk s H scope (compEnvC scope cl C X.env) fp) tg g)
    (ht : ∀ (s : Shared) (H : Hp) (C : Addr) (cl : List (PySem.Str × Addr)) (fp : List Addr), PTs (X.blk s H scope (compEnvC scope cl C X.env) fp) ifs tt)
    (hk : ∀ (s : Shared) (H : Hp) (C : Addr) (cl : List (PySem.Str × Addr)) (fp : List Addr), PE (X.blk s H scope (compEnvC scope cl C X.env) fp) kx tk)
    (he : ∀ (s : Shared) (H : Hp) (C : Addr) (cl : List (PySem.Str × Addr)) (fp : List Addr), PE (X.blk s H scope (compEnvC scope cl C X.env) fp) vx tv) (hs : ∀ x, foldedSetIterable iter X.env x = pure x := by intro _; rfl) :
    PS X (.Assign [.Name y py] (.DictComp kx vx [⟨tg, iter, ifs, 0⟩] scope pos) spos) (tAsg (tDc wi g tt tk tv (own.map (·.2))) (gName i)) := by
  refine ⟨fun pins s σ H D I h => ?_⟩
  rw [exec_Assign_Name_used _ _ _ _ hsw]
  refine wpAny_bind (wpAny_standAt (wpAny_bind ?_))
  show wpAny _ X.A (do let _ ← comprehension (.DictComp kx vx [⟨tg, iter, ifs, 0⟩] scope pos) scope X.env (firstIterPos [⟨tg, iter, ifs, 0⟩] pos) newDict false (eval iter X.env) (some (assign (.Name y py) X.env))) _ _ s
  have h : tDc wi g tt tk tv (own.map (·.2)) σ H (fun x H1 => gName i x σ H1 D.nx) := h
  exact wpAny_bind (thn (dc_core (Qf := fun _ s' => SP X pins D .next s') hc hN I hi ok hg ht hk he hs h fun L C s' m H' I' q hn f => named hN hy hyl I' q hn f) fun _ s' hq => wpAny_pure (wpAny_pure hq))
theorem ps_setDcT {i : Nat} {y : PySem.Str} {py : Pos} {kx vx tg iter : Expr} {ifs : List Expr} {scope : Scope} {own : List (PySem.Str × Nat)} {pos spos : Pos} {wi : TI} {g : TG} {tt : TT} {tk tv : TE} (hu : X.A.units + 1 < cLine) (hc : X.calm = true) (hN : X.N.Nodup) (hy : X.N[i]? = some y) (hyl : X.env.scope.names.lookup y = some .local)
    (hsw : swapsWith (.DictComp kx vx [⟨tg, iter, ifs, 0⟩] scope pos) (some (.Name y py)) spos.line X.env = pure true) (hi : PI X tg iter wi) (ok : BlkOk X.N X.env.scope scope own)
    (hg : ∀ (s : Shared) (H : Hp) (C : Addr) (cl : List (PySem.Str × Addr)) (fp : List Addr), PG (X.blk s H scope (compEnvC scope cl C X.env) fp) tg g)
    (ht : ∀ (s : Shared) (H : Hp) (C : Addr) (cl : List (PySem.Str × Addr)) (fp : List Addr), PTs (X.blk s H scope (compEnvC scope cl C X.env) fp) ifs tt)
    (hk : ∀ (s : Shared) (H : Hp) (C : Addr) (cl : List (PySem.Str × Addr)) (fp : List Addr), PE (X.blk s H scope (compEnvC scope cl C X.env) fp) kx tk)
    (he : ∀ (s : Shared) (H : Hp) (C : Addr) (cl : List (PySem.Str × Addr)) (fp : List Addr), PE (X.blk s H scope (compEnvC scope cl C X.env) fp) vx tv) (hs : ∀ x, foldedSetIterable iter X.env x = pure x := by intro _; rfl) :
    PS X (.Assign [.Name y py] (.DictComp kx vx [⟨tg, iter, ifs, 0⟩] scope pos) spos) (tAsg (tDcT wi g tt tk tv (own.map (·.2))) (gName i)) := by
  refine ⟨fun pins s σ H D I h => ?_⟩
  rw [exec_Assign_Name_used _ _ _ _ hsw]
  refine wpAny_bind (wpAny_standAt (wpAny_bind ?_))
  show wpAny _ X.A (do let _ ← comprehension (.DictComp kx vx [⟨tg, iter, ifs, 0⟩] scope pos) scope X.env (firstIterPos [⟨tg, iter, ifs, 0⟩] pos) newDict false (eval iter X.env) (some (assign (.Name y py) X.env))) _ _ s
  have h : tDcT wi g tt tk tv (own.map (·.2)) σ H (fun x H1 => gName i x σ H1 D.nx) := h
  exact wpAny_bind (thn (dc_tup (Qf := fun _ s' => SP X pins D .next s') hu hc hN I hi ok hg ht hk he hs h fun L C s' m H' I' q hn f => named hN hy hyl I' q hn f) fun _ s' hq => wpAny_pure (wpAny_pure hq))
theorem sw_trueD {kx vx : Expr} {gs : List Comprehension} {scope : Scope} {pos py : Pos} {y : PySem.Str} {l : Nat} {env : Env} (hk : env.scope.kind = .function) (hy : env.scope.names.lookup y = some .local) (hl : (py.line == pos.line) = true)
    (ha : (scope.names.any fun (n, k) => n == y && (k == .local || k == .cell)) = false) : swapsWith (.DictComp kx vx gs scope pos) (some (.Name y py)) l env = pure true := by
  have ky : env.kindOf y = some .local := hy
  have hb : env.blockKind = .function := by unfold Env.blockKind; rw [hk]; rfl
  unfold swapsWith
  simp only [hb, ky, ha, Expr.pos, hl]
  rfl
end
end Sv
namespace Sv
open PySem PySem.Spec PyProof.Rows L2
/-! ### {**d, k: v} -/
section
variable {prog : Program} {w : World} {A : Around} {E : Value → Shared → Prop} {s : Shared}
theorem put_hashed {d : Addr} {kvs : List (Key × Value)} {k : Key} {key v : Value} {Q : Unit → Shared → Prop} (hkey : (mixKind prog w).is k key = true) (hm : s.heap.DictOf (mixKind prog w) d kvs) (hsz : kvs.length ≤ sizeLine)
    (hQ : ∀ h', h'.DictOf (mixKind prog w) d (stored kvs k v) → Heap.SameBut d s.heap h' → Q () { s with heap := h' }) : wpAny (model prog w) A (dictPut d ((mixKind prog w).hash k) key v) Q E s := by
  obtain ⟨o, es, ep, ho, hc, hd, hk, hp, hn⟩ := hm
  have hes : es.size ≤ sizeLine := by
    have e1 := hp.length
    have e2 : es.toList.length = es.size := by simp
    omega
  have ix : (es.findIdx? fun e => (mixKind prog w).is k e.key) = kvs.findIdx? fun kv => decide (kv.1 = k) := by
    rw [← hp.findIdx k]
    obtain ⟨l⟩ := es
    simp
  unfold dictPut
  refine wpAny_bind (wpAny_dictFind_of hkey ho hd hk ?_)
  cases hi : es.findIdx? fun e => (mixKind prog w).is k e.key with
  | some i =>
    refine wpAny_updateDict ho hd (hQ _ ⟨_, _, ep, Heap.get?_update_self _ ho (Obj.isFreed_of_dict (Obj.data_mapDict hd _)), hc.mapDict _, Obj.data_mapDict hd _, hk.modify _ _, ?_, ?_⟩ (Heap.SameBut.update ..))
    · rw [stored, if_pos (any_of_findIdx_some (ix ▸ hi))]
      have hl : (es.toList.findIdx? fun e => (mixKind prog w).is k e.key) = some i := by
        rw [← hi]
        obtain ⟨l⟩ := es
        simp
      have q := hp.modify hn hl v
      obtain ⟨l⟩ := es
      simpa using q
    · rw [stored, if_pos (any_of_findIdx_some (ix ▸ hi)), keys_map_store]
      exact hn
  | none =>
    have nk : k ∉ kvs.map (·.1) := not_mem_of_findIdx_none (ix ▸ hi)
    have na : ¬ (kvs.any fun kv => decide (kv.1 = k)) = true := by
      rw [List.any_eq_true]
      rintro ⟨kv, hkv, he⟩
      exact nk (List.mem_map.mpr ⟨kv, hkv, of_decide_eq_true he⟩)
    refine wpAny_updateDictKeys (hz := hes) ho hd (hQ _ ⟨_, _, ep + 1, Heap.get?_update_self _ ho (Obj.isFreed_of_dict (Obj.data_mapDictKeys hd _)), hc.mapDictKeys _, Obj.data_mapDictKeys hd _, hk.push hkey _, ?_, ?_⟩ (Heap.SameBut.update ..))
    · rw [stored, if_neg na]
      have q := hp.append hkey ((mixKind prog w).hash k) v
      obtain ⟨l⟩ := es
      simpa using q
    · rw [stored, if_neg na, List.map_append, List.nodup_append]
      refine ⟨hn, by simp, fun a ha b hb => ?_⟩
      simp only [List.map_cons, List.map_nil, List.mem_singleton] at hb
      subst hb
      exact fun e => nk (e ▸ ha)
theorem forIn_pairs {α : Type} {f : α → PUnit → Sem (ForInStep PUnit)} {M : Model} {Q : PUnit → Shared → Prop} : ∀ (l : List α) (s : Shared) (I : List α → Shared → Prop), I l s → (∀ x r s, I (x :: r) s → wpAny M A (f x ⟨⟩) (fun st s' => st = ForInStep.yield ⟨⟩ ∧ I r s') E s) → (∀ s, I [] s → Q ⟨⟩ s) →
    wpAny M A (forIn l PUnit.unit f) Q E s
  | [], s, I, h, _, hQ => by
    rw [List.forIn_nil]
    exact wpAny_pure (hQ s h)
  | x :: r, s, I, h, hs, hQ => by
    rw [List.forIn_cons]
    refine wpAny_bind (wpAny_mono (hs x r s h) (fun st s' q => ?_) fun _ _ e => e)
    obtain ⟨rfl, q⟩ := q
    exact forIn_pairs r s' I q hs hQ
theorem merge_mapping {d o : Addr} {kvs more : List (Key × Value)} {Q : Unit → Shared → Prop} (hdo : d ≠ o) (hoS : (o == sysModules) = false) (hd : s.heap.DictOf (mixKind prog w) d kvs) (ho : s.heap.DictOf (mixKind prog w) o more) (hsz : kvs.length + more.length ≤ sizeLine)
    (hQ : ∀ h', h'.DictOf (mixKind prog w) d (merged kvs more) → Heap.SameBut d s.heap h' → Q () { s with heap := h' }) : wpAny (model prog w) A (mergeMapping d (.ref o) false) Q E s := by
  unfold mergeMapping
  refine wpAny_bind (wpAny_isInstance ho.typeIs F.sub_dict_dict ?_)
  rw [if_pos rfl]
  refine wpAny_bind (wpAny_specialOf ho.typeIs F.slot_dict_iter.lookup (wpAny_bind (wpAny_pure ?_)))
  simp only [beq_self_eq_true]
  obtain ⟨oo, eso, epo, hoo, hco, hdo', hko, hpo, hno⟩ := id ho
  obtain ⟨od, esd, epd, hod, hcd, hdd, hkd, hpd, hnd⟩ := id hd
  have hlen : more.length = eso.size := by
    have e := hpo.length
    simpa using e.symm
  have loop : wpAny (model prog w) A (do
      let size := (← dictEntries o).size
      let epoch ← dictEpoch o
      for i in List.range size do
        let some e := (← dictEntries o)[i]? | unsupported "dict.changed-during-merge"
        holding [e.key, e.val] do
          if false = true then
            if (← dictFind d e.key e.hash).isSome then rule "dict.merge.duplicate-key"; raiseNew (← newExc (.type "KeyError") [e.key])
          dictPut d e.hash e.key e.val
        if (← dictEpoch o) != epoch then unsupported "dict.changed-during-merge") Q E s := by
    refine wpAny_bind (wpAny_dictEntries hoo hdo' ?_)
    refine wpAny_bind (wpAny_dictEpoch hoo hdo' ?_)
    rw [List.range_eq_range']
    refine wpAny_bind (forIn_pairs (M := model prog w) (List.range' 0 eso.size) s (fun l s' => ∃ h' i, s' = { s with heap := h' } ∧ l = List.range' i (eso.size - i) ∧ i ≤ eso.size ∧ h'.DictOf (mixKind prog w) d (merged kvs (more.take i)) ∧ h'.get? o = some oo ∧ Heap.SameBut d s.heap h')
      ⟨s.heap, 0, rfl, by simp, Nat.zero_le _, by simpa [merged] using hd, hoo, Heap.SameBut.refl _ _⟩ ?_ ?_)
    · rintro x r s' ⟨h', i, rfl, hr, hi, hd', hoo', hs'⟩
      have hlt : i < eso.size := by
        rcases Nat.lt_or_ge i eso.size with h | h
        · exact h
        · rw [Nat.sub_eq_zero_of_le h] at hr
          simp at hr
      obtain ⟨rfl, rfl⟩ : x = i ∧ r = List.range' (i + 1) (eso.size - (i + 1)) := by
        rw [show eso.size - i = (eso.size - (i + 1)) + 1 by omega, List.range'_succ] at hr
        exact ⟨(List.cons.inj hr).1, (List.cons.inj hr).2⟩
      refine wpAny_bind (wpAny_dictEntries hoo' hdo' ?_)
      rw [Array.getElem?_eq_getElem hlt]
      obtain ⟨⟨k, v⟩, hkv⟩ : ∃ kv, more[x]? = some kv := ⟨more[x]'(by rw [hlen]; exact hlt), List.getElem?_eq_getElem _⟩
      obtain ⟨hkey, hval⟩ := hpo.get? (e := eso[x]) (by simp [hlt]) hkv
      obtain ⟨k', hkey', hhash⟩ := hko eso[x] (Array.getElem_mem hlt)
      obtain rfl : k' = k := (mixKind prog w).inj _ _ _ hkey' hkey
      dsimp only
      rw [hhash, hval]
      have hmx : (merged kvs (more.take x)).length ≤ sizeLine := by
        have e1 := merged_length_le kvs (more.take x)
        have e2 : (more.take x).length ≤ more.length := by rw [List.length_take]; omega
        omega
      simp only [Bool.false_eq_true, if_false]
      refine wpAny_bind (wpAny_holding (put_hashed hkey hd' hmx fun h'' hd'' hs'' => ?_))
      have hoo'' : h''.get? o = some oo := (hs''.2 o (Ne.symm hdo)).trans hoo'
      refine wpAny_bind (wpAny_dictEpoch hoo'' hdo' ?_)
      rw [if_neg (by simp)]
      exact wpAny_pure ⟨rfl, h'', x + 1, rfl, rfl, hlt, by rw [merged_take_succ kvs more x (k', v) hkv]; exact hd'', hoo'', hs'.trans hs''⟩
    · rintro s' ⟨h', i, rfl, hr, hi, hd', hoo', hs'⟩
      have hin : i = eso.size := by
        rcases Nat.lt_or_ge i eso.size with h | h
        · rw [show eso.size - i = (eso.size - (i + 1)) + 1 by omega, List.range'_succ] at hr
          exact nomatch hr
        · exact Nat.le_antisymm hi h
      refine wpAny_pure (hQ h' ?_ hs')
      rw [hin, ← hlen, List.take_length] at hd'
      exact hd'
  rw [if_neg (by rw [hoS]; exact Bool.false_ne_true)]
  refine wpAny_bind (wpAny_dictEntries hod hdd ?_)
  split
  · refine wpAny_bind (wpAny_dictEntries hoo hdo' ?_)
    rw [← Array.forIn_toList]
    refine (wpAny_bind (forIn_pairs (M := model prog w) eso.toList s (fun l s' => s' = s ∧ ∀ e ∈ l, e ∈ eso.toList) ⟨rfl, fun _ h => h⟩ ?_ ?_))
    · rintro e r s' ⟨rfl, hm⟩
      obtain ⟨k, hkey, _⟩ := hko e (by simpa using hm e List.mem_cons_self)
      have rest : s' = s' ∧ ∀ e ∈ r, e ∈ eso.toList := ⟨rfl, fun b hb => hm b (List.mem_cons_of_mem _ hb)⟩
      rcases keyIs_shape hkey with ⟨i, t, _, q⟩ | ⟨y, t, _, q⟩ <;> rw [q] <;> exact wpAny_pure ⟨rfl, rest⟩
    · rintro s' ⟨rfl, _⟩
      exact loop
  · exact loop
end
section
variable {X : Cx}
/-- {**d, k: v}: d's pairs, then the one pair; the value is made while the new dict holds d's pairs -/
def tSpread (td tk tv : TE) : TE := fun σ H Q => ∀ p, H p = none → td σ (upd H p (.dK [])) fun x H1 => ∃ a kvs, x = .ref a ∧ Rd H1 a (.dK kvs) ∧ a ≠ p ∧ H1 p = some (.dK []) ∧ kvs.length ≤ 15 ∧
  ∀ q, upd H1 p (.dK (mergeK [] kvs)) q = none → tk σ (upd (upd H1 p (.dK (mergeK [] kvs))) q (.dK [])) fun kx H2 => tv σ H2 fun y H3 => ∃ k : Key, kx = kV k ∧ H3 p = some (.dK (mergeK [] kvs)) ∧ H3 q = some (.dK []) ∧
    Q (.ref p) (upd (upd H3 q (.dK (putK [] k y))) p (.dK (mergeK (mergeK [] kvs) (putK [] k y))))
theorem pe_spread {d k v : Expr} {td tk tv : TE} {pos : Pos} (hd : PE X d td) (hk : PE X k tk) (hv : PE X v tv) : PE X (.Dict [none, some k] [d, v] pos) (tSpread td tk tv) := by
  refine ⟨fun pins s σ H Q I h => ?_⟩
  rw [arm_eval_Dict]
  refine wpAny_bind (wpAny_standAt ?_)
  show wpAny _ _ (dictDisplay [(none, do let x ← eval d X.env; standAt pos; pure x), (some (eval k X.env), do let x ← eval v X.env; standAt pos; pure x)]) _ _ s
  unfold dictDisplay
  simp only [List.forIn_cons, List.forIn_nil]
  have hn := I.hok.fresh (Nat.le_refl s.heap.objs.size)
  have I1 := I.laid (a := s.heap.objs.size) (o := .dK []) (h' := s.heap.push { cls := .type "dict", data := .dict #[] }) (t' := s.toks) (fun _ _ q => Heap.get?_push_of_some _ q) (Nat.le_refl _) (dk_empty s.heap I.big)
  generalize hp : s.heap.objs.size = p at hn I1
  have q1 := h p hn
  refine wpAny_bind (wpAny_bind ?_)
  simp only [List.isEmpty_nil, if_true, pure_bind]
  refine wpAny_bind (wpAny_alloc ?_)
  rw [hp]
  refine wpAny_bind (wpAny_holding (wpAny_bind (thn (hd.run pins _ σ _ _ I1 q1) fun u s1 ⟨x, H1, I2, rx, a, kvs, ex, ha, hap, hpe, h15, q2⟩ => wpAny_bind (wpAny_standAt (wpAny_pure ?_)))))
  subst ex
  cases rx
  obtain ⟨za, sa, va, ra, da⟩ := dk_rd I2.hok ha
  obtain ⟨zp, spm, vp, rp, dp⟩ := dk_of I2.hok hpe
  cases rp
  have la : va.length ≤ 15 := by rw [← ra.length]; exact h15
  have lin : 20 ≤ sizeLine := by rw [sizeLine_eq]; omega
  refine wpAny_bind (wpAny_onRaise (wpAny_tryCatch (wpAny_onRaise (wpAny_holding (merge_mapping (Ne.symm hap) sa dp da (by rw [List.length_nil]; omega) fun h1 dd1 sb1 => ?_)))))
  have kv1 : KV (mergeK [] kvs) (merged [] va) := ra.merge .nil
  have l1 : (mergeK [] kvs).length ≤ 15 := by
    have e := length_mergeK kvs []
    rw [List.length_nil] at e
    omega
  have he : ∃ q, h1.get? p = some q := let ⟨q, _, _, hq, _⟩ := dd1; ⟨q, hq⟩
  have I3 : Inv X pins σ (upd H1 p (.dK (mergeK [] kvs))) { s1 with heap := h1 } := d_write (t' := s1.toks) I2 (by rw [hpe]; exact True.intro) sb1 he (dk_new (by omega) spm kv1 dd1)
  refine wpAny_pure ?_
  refine wpAny_bind ?_
  rw [if_neg (by exact Bool.false_ne_true)]
  refine wpAny_pure (wpAny_pure ?_)
  refine wpAny_bind ?_
  rw [if_neg (by exact Bool.false_ne_true)]
  refine wpAny_bind (wpAny_holding ?_)
  show wpAny _ _ (subDict [(eval k X.env, do let x ← eval v X.env; standAt pos; pure x)]) _ _ _
  have hn2 : (upd H1 p (.dK (mergeK [] kvs))) h1.objs.size = none := I3.hok.fresh (Nat.le_refl h1.objs.size)
  have I4 := I3.laid (a := h1.objs.size) (o := .dK []) (h' := h1.push { cls := .type "dict", data := .dict #[] }) (t' := s1.toks) (fun _ _ q => Heap.get?_push_of_some _ q) (Nat.le_refl _) (dk_empty h1 I3.big)
  have q3 := q2 _ hn2
  refine wpAny_subDict (knd := mixKind X.prog X.w) (by show 1 ≤ 15; omega) ?_
  show wpAny _ _ _ _ _ { s1 with heap := h1.push { cls := .type "dict", data := .dict #[] } }
  generalize hq : h1.objs.size = q at hn2 I4 q3
  refine evalPairs_cons (thn (hk.run pins _ σ _ _ I4 q3) fun ku s2 ⟨kx, H2, I5, rk, q4⟩ => wpAny_bind (thn (hv.run pins s2 σ H2 _ I5 q4) fun vu s3 ⟨y, H3, I6, ry, key, ek, hp3, hq3, q5⟩ => wpAny_bind (wpAny_standAt (wpAny_pure (evalPairs_nil ?_)))))
  subst ek
  obtain ⟨zq, sq, vq, rq, dq⟩ := dk_of I6.hok hq3
  cases rq
  have car : Carries (mixKind X.prog X.w) [(ku, vu)] [(key, vu)] := ⟨kV_is rk, rfl, trivial⟩
  have npq : p ≠ q := fun z => by
    rw [← z, upd_same] at hn2
    cases hn2
  refine ⟨_, car, by first | exact dq | (rw [hq]; exact dq), fun h2 dd2 sb2 => ?_⟩
  have kv2 : KV (putK [] key y) (merged [] [(key, vu)]) := (KV.merge (more := [(key, y)]) (.cons ⟨rfl, ry⟩ .nil) .nil)
  have heq : ∃ o, h2.get? q = some o := let ⟨o, _, _, ho, _⟩ := dd2; ⟨o, ho⟩
  have I7 : Inv X pins σ (upd H3 q (.dK (putK [] key y))) { s3 with heap := h2, toks := s3.toks + [(ku, vu)].length } := d_write (t' := s3.toks + [(ku, vu)].length) I6 (by rw [hq3]; exact True.intro) sb2 heq (dk_new (by show 1 ≤ sizeLine; omega) sq kv2 dd2)
  have hp7 : (upd H3 q (.dK (putK [] key y))) p = some (.dK (mergeK [] kvs)) := by
    rw [upd_ne npq]
    exact hp3
  have hq7 : (upd H3 q (.dK (putK [] key y))) q = some (.dK (putK [] key y)) := upd_same
  obtain ⟨zp7, sp7, vp7, rp7, dp7⟩ := dk_of I7.hok hp7
  obtain ⟨zq7, sq7, vq7, rq7, dq7⟩ := dk_of I7.hok hq7
  have lp7 : vp7.length ≤ 15 := by rw [← rp7.length]; exact l1
  have lq7 : vq7.length = 1 := by rw [← rq7.length]; rfl
  refine wpAny_bind (wpAny_onRaise (wpAny_holding (merge_mapping npq sq7 dp7 dq7 (by omega) fun h3 dd3 sb3 => wpAny_pure (wpAny_pure ?_))))
  have kv3 : KV (mergeK (mergeK [] kvs) (putK [] key y)) (merged vp7 vq7) := rq7.merge rp7
  have l3 : (mergeK (mergeK [] kvs) (putK [] key y)).length ≤ sizeLine := by
    have e := length_mergeK (putK [] key y) (mergeK [] kvs)
    have e1 : (putK ([] : List (Key × V)) key y).length = 1 := rfl
    omega
  have he3 : ∃ o, h3.get? p = some o := let ⟨o, _, _, ho, _⟩ := dd3; ⟨o, ho⟩
  exact ⟨.ref p, _, d_write (t' := s3.toks + [(ku, vu)].length) I7 (by rw [hp7]; exact True.intro) sb3 he3 (dk_new l3 sp7 kv3 dd3), rfl, q5⟩
end
end Sv
namespace Sv
open PySem PySem.Spec PyProof.Rows L2
/-! ### promises by the number of their arguments -/
def sp0 (φ : Hp → VK → Prop) : Sp := fun vs H Q _ => vs = [] ∧ φ H Q
def sp1 (φ : V → Hp → VK → Prop) : Sp := fun vs H Q _ => ∃ x, vs = [x] ∧ φ x H Q
def sp2 (φ : V → V → Hp → VK → Prop) : Sp := fun vs H Q _ => ∃ x y, vs = [x, y] ∧ φ x y H Q
def sp3 (φ : V → V → V → Hp → VK → Prop) : Sp := fun vs H Q _ => ∃ x y z, vs = [x, y, z] ∧ φ x y z H Q
def sp4 (φ : V → V → V → V → Hp → VK → Prop) : Sp := fun vs H Q _ => ∃ x y z u, vs = [x, y, z, u] ∧ φ x y z u H Q
def sp5 (φ : V → V → V → V → V → Hp → VK → Prop) : Sp := fun vs H Q _ => ∃ x y z u v, vs = [x, y, z, u, v] ∧ φ x y z u v H Q
theorem len0 {φ} : ∀ vs H Q E, sp0 φ vs H Q E → vs.length = ([] : List PySem.Str).length := by
  rintro _ _ _ _ ⟨rfl, _⟩
  rfl
theorem len1 {φ} {a : PySem.Str} : ∀ vs H Q E, sp1 φ vs H Q E → vs.length = [a].length := by
  rintro _ _ _ _ ⟨_, rfl, _⟩
  rfl
theorem len2 {φ} {a b : PySem.Str} : ∀ vs H Q E, sp2 φ vs H Q E → vs.length = [a, b].length := by
  rintro _ _ _ _ ⟨_, _, rfl, _⟩
  rfl
theorem len3 {φ} {a b c : PySem.Str} : ∀ vs H Q E, sp3 φ vs H Q E → vs.length = [a, b, c].length := by
  rintro _ _ _ _ ⟨_, _, _, rfl, _⟩
  rfl
theorem len4 {φ} {a b c d : PySem.Str} : ∀ vs H Q E, sp4 φ vs H Q E → vs.length = [a, b, c, d].length := by
  rintro _ _ _ _ ⟨_, _, _, _, rfl, _⟩
  rfl
theorem len5 {φ} {a b c d e : PySem.Str} : ∀ vs H Q E, sp5 φ vs H Q E → vs.length = [a, b, c, d, e].length := by
  rintro _ _ _ _ ⟨_, _, _, _, _, rfl, _⟩
  rfl
section
variable {P : Program} {w : World} {K : PySem.W.Frag} {mg : PySem.Str → Option Value} {base : Heap} {x qual m : PySem.Str} {pa : Arguments} {bd : List Stmt} {sc : Scope} {f C : Addr} {fd : FuncData} {N ps : List PySem.Str} {k : Nat} {sp : Sp}
theorem fnN (F : FunD K x qual pa bd sc [] [] f fd) (S : FnScope N ps sc) (len : ∀ vs H Q E, sp vs H Q E → vs.length = ps.length)
    (hbody : ∀ (cdv : Value) (A : Around) (outer : List Env) (s : Shared) (H : Hp) (vs : List V) (Q : VK) (E : XK), Room k (A.deeper (envOfC qual sc s.heap.objs.size f cdv)) → sp vs H Q E →
      ∃ t, PSs (cxOf CX0 P w K mg base N qual sc f cdv A outer s H E).nox bd t ∧ t { nx := fun _ H' => Q .non H', rt := Q } (start N vs) H) : FnOk P w K mg base CX0 (k + 1) f fd ps sp :=
  F.ok S len fun cdv A outer s H vs Q E hr h => by
    obtain ⟨t, ht, q⟩ := hbody cdv A outer s H vs Q E hr h
    exact ⟨t, ht.nox, q⟩
theorem calN (F : FunD K x x pa bd sc [] [] f fd) (g : mg x = some (.ref f)) (S : FnScope N ps sc) (b : Binds K fd ps []) (len : ∀ vs H Q E, sp vs H Q E → vs.length = ps.length)
    (hbody : ∀ (cdv : Value) (A : Around) (outer : List Env) (s : Shared) (H : Hp) (vs : List V) (Q : VK) (E : XK), Room k (A.deeper (envOfC x sc s.heap.objs.size f cdv)) → sp vs H Q E →
      ∃ t, PSs (cxOf CX0 P w K mg base N x sc f cdv A outer s H E).nox bd t ∧ t { nx := fun _ H' => Q .non H', rt := Q } (start N vs) H) : C8.Cal P w K mg base (k + 1) x sp [] :=
  ⟨f, fd, ps, [], fnN F S len hbody, g, F.kp, b, .nil⟩
theorem metN (c : Cls K C) (me : Meth K C m f) (F : FunD K m qual pa bd sc [] [] f fd) (S : FnScope N ps sc) (b : Binds K fd ps []) (len : ∀ vs H Q E, sp vs H Q E → vs.length = ps.length)
    (hbody : ∀ (cdv : Value) (A : Around) (outer : List Env) (s : Shared) (H : Hp) (vs : List V) (Q : VK) (E : XK), Room k (A.deeper (envOfC qual sc s.heap.objs.size f cdv)) → sp vs H Q E →
      ∃ t, PSs (cxOf CX0 P w K mg base N qual sc f cdv A outer s H E).nox bd t ∧ t { nx := fun _ H' => Q .non H', rt := Q } (start N vs) H) : C8.Met P w K mg base (k + 1) C m sp [] :=
  ⟨f, fd, ps, [], c, me, fnN F S len hbody, b, .nil⟩
theorem makN (M : Mk K C f) (g : mg x = some (.ref C)) (F : FunD K "__init__" qual pa bd sc [] [] f fd) (S : FnScope N ps sc) (b : Binds K fd ps []) (len : ∀ vs H Q E, sp vs H Q E → vs.length = ps.length)
    (hbody : ∀ (cdv : Value) (A : Around) (outer : List Env) (s : Shared) (H : Hp) (vs : List V) (Q : VK) (E : XK), Room k (A.deeper (envOfC qual sc s.heap.objs.size f cdv)) → sp vs H Q E →
      ∃ t, PSs (cxOf CX0 P w K mg base N qual sc f cdv A outer s H E).nox bd t ∧ t { nx := fun _ H' => Q .non H', rt := Q } (start N vs) H) : C8.Mak P w K mg base (k + 1) x C sp [] :=
  ⟨f, fd, ps, [], M, fnN F S len hbody, g, b, .nil⟩
end
/-! ### the looks of the top at single things -/
section
variable {K : PySem.W.Frag} {mg : PySem.Str → Option Value}
theorem exs {b : Bool} {l m : List Bool} (h : b :: l = true :: m) : b = true ∧ l = m := by
  injection h with h1 h2
  exact ⟨h1, h2⟩
theorem Txt.ex0 (T : Txt K mg) : codeOk K (getterAd K) "Web.gates" = true ∧ exM K = [true, true, true, true, true, true, true, true, true, true, true] := exs T.ex
theorem Txt.exI (T : Txt K mg) {i : Nat} {b : Bool} (h : (exM K)[i]? = some b) (hi : i < 11) : b = true := by
  rw [T.ex0.2] at h
  have q : i = 0 ∨ i = 1 ∨ i = 2 ∨ i = 3 ∨ i = 4 ∨ i = 5 ∨ i = 6 ∨ i = 7 ∨ i = 8 ∨ i = 9 ∨ i = 10 := by omega
  rcases q with rfl | rfl | rfl | rfl | rfl | rfl | rfl | rfl | rfl | rfl | rfl <;> exact (Option.some.inj h).symm
theorem Txt.prop (T : Txt K mg) : PropOf K (He.ga K "Web") "gates" (propAd K) (getterAd K) := by
  refine ⟨of_decide_eq_true (T.exI (i := 1) rfl (by omega)), of_decide_eq_true (T.exI (i := 2) rfl (by omega)), of_decide_eq_true (T.exI (i := 3) rfl (by omega)), ?_⟩
  have h : isRefAt K (propAd K) = true := T.exI (i := 0) rfl (by omega)
  unfold isRefAt at h
  unfold getterAd
  cases e : PySem.W.recIn K (propAd K) "property" with
  | none =>
    rw [e] at h
    cases h
  | some l =>
    rw [e] at h
    cases l with
    | nil => cases h
    | cons v r => cases v <;> first
      | exact ⟨r, rfl⟩
      | cases h
theorem Txt.insC (T : Txt K mg) : C8.InsC K (He.ga K "Web") := by
  have h : insB K (He.ga K "Web") = true := T.exI (i := 4) rfl (by omega)
  unfold insB at h
  simp only [Bool.and_eq_true, decide_eq_true_eq] at h
  obtain ⟨h1, h2, h3, h4, h5⟩ := h
  exact ⟨T.c_Web, h1, h2, h3, h4, h5⟩
theorem tupA_ok {a : Addr} {vs : List V} (h : tupA K a vs = true) (H : Hp) : SqT K H a vs := by
  unfold tupA at h
  cases q : K.lookup a with
  | none =>
    rw [q] at h
    cases h
  | some o =>
    obtain ⟨oc, od, dt, osl⟩ := o
    rw [q] at h
    cases oc with
    | type c =>
      cases dt with
      | seq its n =>
        simp only [Bool.and_eq_true, decide_eq_true_eq] at h
        obtain ⟨h1, h3, h4⟩ := h
        exact .inr ⟨_, its, n, q, congrArg Value.type h1, rfl, h3, He.relAll_ok h4⟩
      | _ => cases h
    | _ => cases dt <;> cases h
theorem Txt.words (T : Txt K mg) (H : Hp) : SqT K H (He.ga K "WORDS") [.str "save", .str "back"] := tupA_ok (T.exI (i := 5) rfl (by omega)) H
theorem Txt.shapes (T : Txt K mg) (H : Hp) : Dp K H (.ref (He.ga K "SHAPES")) (.tuple [.tuple [.str "use", .int 3], .tuple [.str "free", .int 3], .tuple [.str "price", .int 4]]) :=
  .tup (tupA_ok (T.exI (i := 6) rfl (by omega)) H) (.cons (.tup (tupA_ok (T.exI (i := 7) rfl (by omega)) H) (.cons (.str _) (.cons (.int _) .nil)))
    (.cons (.tup (tupA_ok (T.exI (i := 8) rfl (by omega)) H) (.cons (.str _) (.cons (.int _) .nil))) (.cons (.tup (tupA_ok (T.exI (i := 9) rfl (by omega)) H) (.cons (.str _) (.cons (.int _) .nil))) .nil)))
theorem Txt.self (T : Txt K mg) : PySem.W.selfFirst K (He.ga K "Lot") = true := T.exI (i := 10) rfl (by omega)
theorem Txt.f_Web_gates (T : Txt K mg) : ∃ fd, FunD K "gates" "Web.gates" (defArgs s_Web_gates) (defBody s_Web_gates) (defScope s_Web_gates) [] [] (getterAd K) fd := by
  have hc := T.ex0.1
  have hw := T.gw
  unfold codeOk at hc
  unfold fnWA gateW at hw
  cases q : K.lookup (getterAd K) with
  | none =>
    rw [q] at hw
    cases hw
  | some o =>
    obtain ⟨oc, od, dt, osl⟩ := o
    rw [q] at hc hw
    cases dt with
    | func fd =>
      simp only [Bool.and_eq_true] at hc
      obtain ⟨h1, h2, h3⟩ := hc
      obtain ⟨n1, n2, n3, n4, n5, n6, n7, n8, n9, n10, n11, n12, n13, n14, n15⟩ := fd
      have e2 : (some (n1, n2, n3, n4, n5, n6, n7, n15) : He.FnW) = some (("gates" : PySem.Str), ("Web.gates" : PySem.Str), defArgs s_Web_gates, FuncBody.stmts (defBody s_Web_gates), defScope s_Web_gates, mainGlobals, [], builtinsNs) := hw
      simp only [Option.some.injEq, Prod.mk.injEq] at e2
      obtain ⟨a1, a2, a3, a4, a5, a6, a7, a8⟩ := e2
      rw [a1, a2, a3, a4, a5, a6, a7, a8] at q
      exact ⟨_, ⟨oc, od, n8, n9, n10, n11, n12, n13, n14, osl, rfl, q, h2, He.dflB_ok h3, .inl rfl⟩, h1⟩
    | _ => cases hw
end
/-! ### rules that name the frame: for comprehension blocks -/
section
variable {X : Cx} (K : PySem.W.Frag) (hK : X.K = K)
include hK
theorem pe_fldK {e : Expr} {ta : TE} {f : PySem.Str} {pos : Pos} (he : PE X e ta) (hb : attributeBase e f X.env (eval e X.env) = eval e X.env) : PE X (.Attribute e f pos) (tFld K ta f) := by
  subst hK
  exact pe_fld he hb
theorem op_inK : OpR X (compareOp .In) (rIn K false) := by
  subst hK
  exact op_in_seq
theorem op_notInK : OpR X (compareOp .NotIn) (rIn K true) := by
  subst hK
  exact op_notIn_seq
theorem op_inTK {k : Nat} (hr : Room k X.A) : OpR X (compareOp .In) (rInT K false) := by
  subst hK
  exact op_inT hr
theorem op_eqDK (hu : X.A.units + 64 < cLine) : OpR X (compareOp .Eq) (rEqD K) := by
  subst hK
  exact op_eqD hu
theorem ix_listK : IxR X (rIxL K) := by
  subst hK
  exact ix_list
theorem ix_tupK : IxR X (rIxT K) := by
  subst hK
  exact ix_tup
theorem cr_allK (hc : X.calm = true) : CallR X (.builtin "all") (rAll K) := by
  subst hK
  exact cr_all hc
theorem cr_anyK (hc : X.calm = true) : CallR X (.builtin "any") (rAny K) := by
  subst hK
  exact cr_any hc
theorem pi_listK {tg l : Expr} {tl : TE} (hl : PE X l tl) : PI X tg l (iList K tl) := by
  subst hK
  exact pi_list hl
theorem pi_tupK {tg l : Expr} {tl : TE} (hl : PE X l tl) : PI X tg l (iTup K tl) := by
  subst hK
  exact pi_tup hl
theorem pg_tupK {es : List Expr} {k : Nat} {t : TGs} {n : Nat} {pos : Pos} (hc : X.calm = true) (h : PGs X es t) (hn : (assignEach es X.env).length = n := by rfl) (hst : (assignEach es X.env).findIdx? (·.1) = none := by rfl) : PG X (.Tuple es k pos) (gTup K n t) := by
  subst hK
  exact pg_tup hc h hn hst
theorem sl_tupK : SlR X (rSlA K) := by
  subst hK
  exact sl_tupA
theorem sl_listK : SlR X (rSlL K) := by
  subst hK
  exact sl_list
theorem call_tupleK : CallR X (.type "tuple") (fun xs H Q => ∃ p ys, xs = [.ref p] ∧ ((SqL K H p ys ∧ ∀ l, H l = none → Q (.ref l) (upd H l (.tup ys))) ∨ (SqT K H p ys ∧ Q (.ref p) H))) := by
  subst hK
  exact call_tuple_of
theorem pa_starK {e : Expr} {es : List Expr} {te : TE} {tr : TA} {p : Pos} (he : PE X e te) (h : PA X es tr) (hs : starEach (.Starred e p :: es) X.env = (true, eval e X.env) :: starEach es X.env := by rfl) : PA X (.Starred e p :: es) (StX.tStar K te tr) := by
  subst hK
  exact StX.pa_star he h hs
end
/-! ### gates -/
end Sv
namespace Sv
open PySem PySem.Spec PyProof.Rows L2
/-! ### comprehensions over data -/
/-- the heap without D -/
def Off (D : Addr) (H : Hp) : Hp := fun a => if a = D then none else H a
theorem off_le {D : Addr} {H : Hp} : Ext (Off D H) H := fun a u e => by
  unfold Off at e
  split at e
  · cases e
  · exact e
theorem off_self {D : Addr} {H : Hp} : Off D H D = none := by
  unfold Off
  rw [if_pos rfl]
theorem off_ne {D a : Addr} {H : Hp} (n : a ≠ D) : Off D H a = H a := by
  unfold Off
  rw [if_neg n]
theorem off_put {D : Addr} {H : Hp} {o : HO} : Off D (upd H D o) = Off D H := by
  funext a
  by_cases e : a = D
  · rw [e, off_self, off_self]
  · rw [off_ne e, off_ne e, upd_ne e]
theorem off_none {D : Addr} {H : Hp} (h : H D = none) : Off D H = H := by
  funext a
  by_cases e : a = D
  · rw [e, off_self, h]
  · rw [off_ne e]
theorem off_upd {D a : Addr} {H : Hp} {o : HO} (n : a ≠ D) : Off D (upd H a o) = upd (Off D H) a o := by
  funext b
  by_cases e : b = D
  · rw [e, off_self, upd_ne (Ne.symm n), off_self]
  · rw [off_ne e]
    by_cases q : b = a
    · rw [q, upd_same, upd_same]
    · rw [upd_ne q, upd_ne q, off_ne e]
theorem off_new {D a : Addr} {H : Hp} {o : HO} (h : H a = none) (n : a ≠ D) : Ext (Off D H) (Off D (upd H a o)) := by
  rw [off_upd n]
  exact Ext.upd (by rw [off_ne n]; exact h)
theorem Ext.off {D : Addr} {H H' : Hp} (x : Ext H H') : Ext (Off D H) (Off D H') := fun a u e => by
  by_cases q : a = D
  · rw [q, off_self] at e
    cases e
  · rw [off_ne q] at e ⊢
    exact x _ _ e
theorem neD {D p : Addr} {H : Hp} {o : HO} (h : H D = some o) (n : H p = none) : p ≠ D := (ne_of_none h n).symm
section
variable {K : PySem.W.Frag} {a : Addr} {xs : List V} {g : TG} {tt : TT} {te : TE} {vs : List Nat} {σ : L2.St} {H1 : Hp} {D : Addr} {Qd : Hp → Prop}
/-- what is made so far -/
def Made (K : PySem.W.Frag) (H1 : Hp) (D : Addr) (ds : List PyData) (H : Hp) : Prop := ∃ acc, Ext H1 (Off D H) ∧ H D = some (.lst acc) ∧ DpAll K (Off D H) acc ds
theorem Made.new {K : PySem.W.Frag} {H1 : Hp} {D : Addr} (h : H1 D = none) : Made K H1 D [] (upd H1 D (.lst [])) := by
  refine ⟨[], ?_, upd_same, .nil⟩
  rw [off_put, off_none h]
  exact Ext.rfl'
theorem Made.ext1 {K : PySem.W.Frag} {H1 H : Hp} {D : Addr} {ds : List PyData} (h : Made K H1 D ds H) : Ext H1 H := by
  obtain ⟨acc, x, _⟩ := h
  exact x.trans off_le
theorem Made.dp {K : PySem.W.Frag} {H1 H : Hp} {D : Addr} {ds : List PyData} (h : Made K H1 D ds H) : Dp K H (.ref D) (.list ds) := by
  obtain ⟨acc, x, e, q⟩ := h
  exact .lst (.of e) (q.ext off_le)
theorem filterMap_succ {α : Type} (F : Nat → Option α) (i : Nat) : (List.range (i + 1)).filterMap F = (List.range i).filterMap F ++ (F i).toList := by
  rw [List.range_succ, List.filterMap_append]
  cases e : F i <;> simp [e]
/-- a turn's two ends -/
structure Turn (K : PySem.W.Frag) (D : Addr) (H : Hp) (o : Option PyData) (Nx : Hp → Prop) : Prop where
  has : ∃ acc, H D = some (.lst acc)
  keep : ∀ {y : V} {d : PyData} {H4 : Hp}, o = some d → Ext (Off D H) (Off D H4) → H4 D = H D → Dp K (Off D H4) y d → ∃ acc, H4 D = some (.lst acc) ∧ acc.length < sizeLine ∧ Nx (upd H4 D (.lst (acc ++ [y])))
  drop : ∀ {H3 : Hp}, o = none → Ext (Off D H) (Off D H3) → H3 D = H D → Nx H3
/-- the same heap, kept -/
theorem Turn.keep0 {K : PySem.W.Frag} {D : Addr} {H : Hp} {o : Option PyData} {Nx : Hp → Prop} (t : Turn K D H o Nx) {y : V} {d : PyData} (e : o = some d) (h : Dp K (Off D H) y d) : ∃ acc, H D = some (.lst acc) ∧ acc.length < sizeLine ∧ Nx (upd H D (.lst (acc ++ [y]))) := t.keep e Ext.rfl' rfl h
theorem Turn.drop0 {K : PySem.W.Frag} {D : Addr} {H : Hp} {o : Option PyData} {Nx : Hp → Prop} (t : Turn K D H o Nx) (e : o = none) : Nx H := t.drop e Ext.rfl' rfl
theorem Turn.ne {K : PySem.W.Frag} {D m : Addr} {H : Hp} {o : Option PyData} {Nx : Hp → Prop} (t : Turn K D H o Nx) (hm : H m = none) : m ≠ D := t.has.elim fun _ e => neD e hm
/-- a new thing is kept -/
theorem Turn.keepN {K : PySem.W.Frag} {D m : Addr} {H : Hp} {o : Option PyData} {Nx : Hp → Prop} (t : Turn K D H o Nx) {u : HO} {d : PyData} (e : o = some d) (hm : H m = none) (h : Dp K (upd (Off D H) m u) (.ref m) d) :
    ∃ acc, upd H m u D = some (.lst acc) ∧ acc.length < sizeLine ∧ Nx (upd (upd H m u) D (.lst (acc ++ [.ref m]))) :=
  t.keep e (off_new hm (t.ne hm)) (upd_ne (t.ne hm).symm) (by rw [off_upd (t.ne hm)]; exact h)
/-- behind i turns -/
def MadeI (K : PySem.W.Frag) (H1 : Hp) (D : Addr) (F : Nat → Option PyData) (i : Nat) (H : Hp) : Prop := ∃ acc, Ext H1 (Off D H) ∧ H D = some (.lst acc) ∧ DpAll K (Off D H) acc ((List.range i).filterMap F) ∧ acc.length ≤ i
theorem MadeI.made {K : PySem.W.Frag} {H1 H : Hp} {D : Addr} {F : Nat → Option PyData} {i : Nat} (h : MadeI K H1 D F i H) : Made K H1 D ((List.range i).filterMap F) H := by
  obtain ⟨acc, a, b, c, _⟩ := h
  exact ⟨acc, a, b, c⟩
theorem MadeI.turn {K : PySem.W.Frag} {H1 H : Hp} {D : Addr} {F : Nat → Option PyData} {i : Nat} (h : MadeI K H1 D F i H) (hz : i < sizeLine) : Turn K D H (F i) (MadeI K H1 D F (i + 1)) := by
  obtain ⟨acc, hx, hD, hacc, hle⟩ := h
  refine ⟨⟨_, hD⟩, fun {y d H4} hd hx4 hD4 dp => ⟨acc, hD4.trans hD, by omega, acc ++ [y], ?_, upd_same, ?_, ?_⟩, fun {H3} hn hx3 hD3 => ⟨acc, hx.trans hx3, hD3.trans hD, ?_, by omega⟩⟩
  · rw [off_put]
    exact hx.trans hx4
  · rw [filterMap_succ, hd, off_put]
    exact (hacc.ext hx4).snoc dp
  · rw [List.length_append, List.length_singleton]
    omega
  · rw [filterMap_succ, hn, Option.toList_none, List.append_nil]
    exact hacc.ext hx3
theorem MadeI.new {K : PySem.W.Frag} {H1 : Hp} {D : Addr} {F : Nat → Option PyData} (h : H1 D = none) : MadeI K H1 D F 0 (upd H1 D (.lst [])) := by
  refine ⟨[], ?_, upd_same, .nil, Nat.le_refl _⟩
  rw [off_put, off_none h]
  exact Ext.rfl'
theorem MadeI.x1 {K : PySem.W.Frag} {H1 H : Hp} {D : Addr} {F : Nat → Option PyData} {i : Nat} (h : MadeI K H1 D F i H) : Ext H1 H := h.made.ext1
theorem MadeI.x0 {K : PySem.W.Frag} {H1 H : Hp} {D : Addr} {F : Nat → Option PyData} {i : Nat} (h : MadeI K H1 D F i H) : Ext H1 (Off D H) := h.elim fun _ z => z.1
/-- over a list -/
theorem lcD_list (F : Nat → Option PyData) (n : H1 D = none) (hl : SqL K H1 a xs) (hz : xs.length ≤ sizeLine)
    (hs : ∀ i x H (Nx : Hp → Prop), xs[i]? = some x → Ext H1 (Off D H) → Turn K D H (F i) Nx → g x (wipe σ vs) H fun σ2 H2 => wipe σ2 vs = wipe σ vs ∧ tt σ2 H2 fun b H3 =>
      if b = true then te σ2 H3 fun y H4 => ∃ acc, H4 D = some (.lst acc) ∧ acc.length < sizeLine ∧ Nx (upd H4 D (.lst (acc ++ [y]))) else Nx H3)
    (hd : ∀ H, Made K H1 D ((List.range xs.length).filterMap F) H → Qd H) :
    ∃ W : Nat → Nat → Hp → Prop, (∃ m, W 0 m (upd H1 D (.lst []))) ∧ ∀ i m H, W i m H →
      ((Itl K a).stop i H ∧ Qd H) ∨ ((Itl K a).go i H ∧ ∃ Nx : Hp → Prop, (∀ H', Nx H' → ∃ m', m' < m ∧ W (i + 1) m' H') ∧ ∀ x H', (Itl K a).yld i H x H' → g x (wipe σ vs) H' fun σ2 H2 => wipe σ2 vs = wipe σ vs ∧ tt σ2 H2 fun b H3 =>
        if b = true then te σ2 H3 fun y H4 => ∃ acc, H4 D = some (.lst acc) ∧ acc.length < sizeLine ∧ Nx (upd H4 D (.lst (acc ++ [y]))) else Nx H3) :=
  lc_list (MadeI K H1 D F) (.new n) (fun i H _ h => hl.ext h.x1) (fun i x H hi h => hs i x H _ hi h.x0 (h.turn (Nat.lt_of_lt_of_le (List.getElem?_eq_some_iff.mp hi).1 hz))) fun H h => hd H h.made
/-- over a tuple -/
theorem lcD_tup (F : Nat → Option PyData) (n : H1 D = none) (hl : SqT K H1 a xs) (hz : xs.length ≤ sizeLine)
    (hs : ∀ i x H (Nx : Hp → Prop), xs[i]? = some x → Ext H1 (Off D H) → Turn K D H (F i) Nx → g x (wipe σ vs) H fun σ2 H2 => wipe σ2 vs = wipe σ vs ∧ tt σ2 H2 fun b H3 =>
      if b = true then te σ2 H3 fun y H4 => ∃ acc, H4 D = some (.lst acc) ∧ acc.length < sizeLine ∧ Nx (upd H4 D (.lst (acc ++ [y]))) else Nx H3)
    (hd : ∀ H, Made K H1 D ((List.range xs.length).filterMap F) H → Qd H) :
    ∃ W : Nat → Nat → Hp → Prop, (∃ m, W 0 m (upd H1 D (.lst []))) ∧ ∀ i m H, W i m H →
      ((Itt K a).stop i H ∧ Qd H) ∨ ((Itt K a).go i H ∧ ∃ Nx : Hp → Prop, (∀ H', Nx H' → ∃ m', m' < m ∧ W (i + 1) m' H') ∧ ∀ x H', (Itt K a).yld i H x H' → g x (wipe σ vs) H' fun σ2 H2 => wipe σ2 vs = wipe σ vs ∧ tt σ2 H2 fun b H3 =>
        if b = true then te σ2 H3 fun y H4 => ∃ acc, H4 D = some (.lst acc) ∧ acc.length < sizeLine ∧ Nx (upd H4 D (.lst (acc ++ [y]))) else Nx H3) :=
  lc_tup (MadeI K H1 D F) (.new n) (fun i H _ h => hl.ext h.x1) (fun i x H hi h => hs i x H _ hi h.x0 (h.turn (Nat.lt_of_lt_of_le (List.getElem?_eq_some_iff.mp hi).1 hz))) fun H h => hd H h.made
/-- over a range -/
theorem lcD_range {lo : Int} {m : Nat} (F : Nat → Option PyData) (n : H1 D = none) (hz : m ≤ sizeLine)
    (hs : ∀ i H (Nx : Hp → Prop), i < m → Ext H1 (Off D H) → Turn K D H (F i) Nx → g (.int (lo + i)) (wipe σ vs) H fun σ2 H2 => wipe σ2 vs = wipe σ vs ∧ tt σ2 H2 fun b H3 =>
      if b = true then te σ2 H3 fun y H4 => ∃ acc, H4 D = some (.lst acc) ∧ acc.length < sizeLine ∧ Nx (upd H4 D (.lst (acc ++ [y]))) else Nx H3)
    (hd : ∀ H, Made K H1 D ((List.range m).filterMap F) H → Qd H) :
    ∃ W : Nat → Nat → Hp → Prop, (∃ k, W 0 k (upd H1 D (.lst []))) ∧ ∀ i k H, W i k H →
      ((Itr lo m).stop i H ∧ Qd H) ∨ ((Itr lo m).go i H ∧ ∃ Nx : Hp → Prop, (∀ H', Nx H' → ∃ m', m' < k ∧ W (i + 1) m' H') ∧ ∀ x H', (Itr lo m).yld i H x H' → g x (wipe σ vs) H' fun σ2 H2 => wipe σ2 vs = wipe σ vs ∧ tt σ2 H2 fun b H3 =>
        if b = true then te σ2 H3 fun y H4 => ∃ acc, H4 D = some (.lst acc) ∧ acc.length < sizeLine ∧ Nx (upd H4 D (.lst (acc ++ [y]))) else Nx H3) :=
  lc_range (MadeI K H1 D F) (.new n) (fun i H hi h => hs i H _ hi h.x0 (h.turn (Nat.lt_of_lt_of_le hi hz))) fun H h => hd H h.made
end
end Sv
namespace Sv
open PySem PySem.Spec PyProof.Rows L2
/-! ### the pool of a script's numbers, drawn from -/
/-- all but p stays -/
def But (p : Addr) (H H' : Hp) : Prop := ∀ a u, a ≠ p → H a = some u → H' a = some u
/-- the pool at p; H0: a heap of before, all but p of it stays -/
def PoolAt (K : PySem.W.Frag) (p : Addr) (H0 : Hp) (k : Int) (H : Hp) : Prop := ∃ (s : Addr) (ns : List Int) (a b c e : Int), But p H0 H ∧ H p = some (.lst [.ref s, .int a, .int b, .int c, .int e]) ∧ (∀ H', But p H0 H' → SqL K H' s (ns.map V.int)) ∧ 0 ≤ a ∧ a ≤ k ∧ 0 ≤ b ∧ 0 ≤ c ∧ 0 ≤ e ∧ e < 2147483629
theorem But.trans {p : Addr} {H H1 H2 : Hp} (a : But p H H1) (b : But p H1 H2) : But p H H2 := fun c u n h => b c u n (a c u n h)
theorem But.put {p : Addr} {H : Hp} {o : HO} : But p H (upd H p o) := fun a u n h => by
  rw [upd_ne n]
  exact h
theorem But.of {p : Addr} {H H' : Hp} (e : Ext H H') : But p H H' := fun a u _ h => e a u h
theorem But.seq {K : PySem.W.Frag} {p a : Addr} {H H' : Hp} {xs : List V} (b : But p H H') (n : a ≠ p) (h : SqL K H a xs) : SqL K H' a xs :=
  h.imp (fun r => r.imp (fun r => b _ _ n r) fun ⟨o, r⟩ => ⟨o, b _ _ n r⟩) id
theorem PoolAt.mono {K : PySem.W.Frag} {p : Addr} {H0 : Hp} {k k' : Int} {H : Hp} (h : PoolAt K p H0 k H) (e : k ≤ k') : PoolAt K p H0 k' H := by
  obtain ⟨s, ns, a, b, c, d, bb, h1, h2, h4, h5, h6⟩ := h
  exact ⟨s, ns, a, b, c, d, bb, h1, h2, h4, Int.le_trans h5 e, h6⟩
theorem PoolAt.ext {K : PySem.W.Frag} {p : Addr} {H0 : Hp} {k : Int} {H H' : Hp} (h : PoolAt K p H0 k H) (x : Ext H H') : PoolAt K p H0 k H' := by
  obtain ⟨s, ns, a, b, c, d, bb, h1, h2⟩ := h
  exact ⟨s, ns, a, b, c, d, bb.trans (.of x), x _ _ h1, h2⟩
theorem PoolAt.ne {K : PySem.W.Frag} {p D : Addr} {H0 : Hp} {k : Int} {H : Hp} (h : PoolAt K p H0 k H) (n : H D = none) : D ≠ p := by
  obtain ⟨s, ns, a, b, c, d, bb, h1, h2⟩ := h
  intro z
  rw [z, h1] at n
  cases n
theorem PoolAt.non {K : PySem.W.Frag} {p D : Addr} {H0 : Hp} {k : Int} {H : Hp} (h : PoolAt K p H0 k H) (n : H D = none) : H0 D = none := by
  have np := h.ne n
  obtain ⟨s, ns, a, b, c, d, bb, h1, h2⟩ := h
  cases e : H0 D with
  | none => rfl
  | some o =>
    rw [bb _ _ np e] at n
    cases n
/-- a list of the law's own is written -/
theorem PoolAt.put {K : PySem.W.Frag} {p D : Addr} {H0 : Hp} {k : Int} {H : Hp} {o : HO} (h : PoolAt K p H0 k H) (np : D ≠ p) (n : H0 D = none) : PoolAt K p H0 k (upd H D o) := by
  obtain ⟨s, ns, a, b, c, d, bb, h1, h2⟩ := h
  refine ⟨s, ns, a, b, c, d, fun x u nx hx => ?_, by rw [upd_ne np.symm]; exact h1, h2⟩
  have nD : x ≠ D := fun z => by
    rw [z, n] at hx
    cases hx
  rw [upd_ne nD]
  exact bb _ _ nx hx
def spPool (K : PySem.W.Frag) : Sp := sp1 fun x H Q => ∃ s ns, x = .ref s ∧ SqL K H s (List.map V.int ns) ∧ ∀ p H', H p = none → Ext H H' → PoolAt K p H' 0 H' → Q (.ref p) H'
def spDraw (K : PySem.W.Frag) : Sp := sp2 fun x y H Q => ∃ p k lim H0, x = .ref p ∧ y = .int lim ∧ 0 < lim ∧ lim < 1000000000 ∧ k < 1000000000 ∧ PoolAt K p H0 k H ∧
  ∀ d H', 0 ≤ d → d < lim → But p H H' → PoolAt K p H0 (k + 1) H' → Q (.int d) H'
section
variable {P : Program} {w : World} {K : PySem.W.Frag} {mg : PySem.Str → Option Value} {base : Heap}
theorem sc_law_pool : FnScope ["_law_script"] ["_law_script"] (defScope s_law_pool) := ⟨rfl, rfl, rfl, by decide +kernel, rfl, by decide +kernel, by decide +kernel⟩
theorem c_law_pool (T : Txt K mg) : C8.Cal P w K mg base 1 "_law_pool" (spPool K) [] := by
  obtain ⟨fd, F⟩ := T.f_law_pool
  refine calN F T.g_law_pool sc_law_pool (F.bindsN fun _ _ _ _ _ _ us hl => match us, hl with | [_], _ => rfl) len1 (fun cdv A outer s H vs Q E hr h => ?_)
  refine ⟨_, (pss_one (ps_ret (pe_lst (pa_cons (pv 0) (pa_cons pe_int (pa_cons pe_int (pa_cons pe_int (pa_cons pe_int pa_nil)))))))), ?_⟩
  -- slots: 0:_law_script
  obtain ⟨x, rfl, s, ns, rfl, hs, q⟩ := h
  refine ⟨_, rfl, by show 5 ≤ sizeLine; decide, fun p hp => ?_⟩
  refine q p _ hp (Ext.upd hp) ⟨s, ns, 0, 0, 0, 7, fun _ _ _ h => h, upd_same, fun H' b => ?_, by omega, by omega, by omega, by omega, by omega, by omega⟩
  refine hs.imp (fun r => ?_) id
  have nps : s ≠ p := fun e => by
    rw [e] at r
    rcases r with r | ⟨o, r⟩ <;> rw [hp] at r <;> cases r
  exact r.imp (fun r => b _ _ nps (by rw [upd_ne nps]; exact r)) fun ⟨o, r⟩ => ⟨o, b _ _ nps (by rw [upd_ne nps]; exact r)⟩
theorem sc_law_draw : FnScope ["_law_pool_here", "_law_limit", "_law_cell", "_law_digit", "_law_mixed"] ["_law_pool_here", "_law_limit"] (defScope s_law_draw) := ⟨rfl, rfl, rfl, by decide +kernel, rfl, by decide +kernel, by decide +kernel⟩
theorem c_law_draw (T : Txt K mg) : C8.Cal P w K mg base 1 "_law_draw" (spDraw K) [] := by
  obtain ⟨fd, F⟩ := T.f_law_draw
  refine calN F T.g_law_draw sc_law_draw (F.bindsN fun _ _ _ _ _ _ us hl => match us, hl with | [_, _], _ => rfl) len2 (fun cdv A outer s H vs Q E hr h => ?_)
  refine ⟨_, (pss_cons (ps_asg (pe_op op_add (pe_ix ix_list (pv 0) pe_int (fun _ _ => rfl)) pe_int) (pg_sub (pv 0) pe_int set_list))
      (C8.pss_cut (ps_if (PW.pt (pw_and (pt_cmpR op_eq (pe_ix ix_list (pv 0) pe_int (fun _ _ => rfl)) pe_int (nomark _)) (pw_and1 (pt_cmpR op_lt (pe_ix ix_list (pv 0) pe_int (fun _ _ => rfl)) (pe_callB call_len (by rfl) T.b_len (by decide +kernel) (pa_cons (pe_ix ix_list (pv 0) pe_int (fun _ _ => rfl)) pa_nil)) (nomark _))))) (pss_cons (ps_set (i := 2) sc_law_draw.nd rfl (by first | exact Or.inl rfl | exact Or.inr rfl) (pe_callB call_abs (by rfl) T.b_abs (by decide +kernel) (pa_cons (pe_ix ix_list (pe_ix ix_list (pv 0) pe_int (fun _ _ => rfl)) (pe_ix ix_list (pv 0) pe_int (fun _ _ => rfl)) (fun _ _ => rfl)) pa_nil)))
      (pss_cons (ps_asg (pe_op op_add (pe_ix ix_list (pv 0) pe_int (fun _ _ => rfl)) pe_int) (pg_sub (pv 0) pe_int set_list))
      (pss_one (ps_if (pt_cmpR op_ge (pv 2) (pe_op op_pow pe_int pe_int) (nomark _)) (pss_one (ps_asg (pv 2) (pg_sub (pv 0) pe_int set_list)))
      (pss_one (ps_asg (pe_op op_modN (pe_callTy call_int1 (by rfl) T.b_int (by decide +kernel) (pa_cons (pe_op op_mul (pe_op op_add (pe_op op_add (pe_ix ix_list (pv 0) pe_int (fun _ _ => rfl)) (pv 2)) pe_int) pe_int) pa_nil)) pe_int) (pg_sub (pv 0) pe_int set_list)))))))
      pss_nil)
      (pss_cons (ps_if (pt_cmpR op_gt (pe_ix ix_list (pv 0) pe_int (fun _ _ => rfl)) pe_int (nomark _)) (pss_cons (ps_set (i := 3) sc_law_draw.nd rfl (by first | exact Or.inl rfl | exact Or.inr rfl) (pe_op op_modN (pe_callTy call_int1 (by rfl) T.b_int (by decide +kernel) (pa_cons (pe_ix ix_list (pv 0) pe_int (fun _ _ => rfl)) pa_nil)) (pv 1)))
      (pss_cons (ps_asg (pe_op op_fdivN (pe_ix ix_list (pv 0) pe_int (fun _ _ => rfl)) (pv 1)) (pg_sub (pv 0) pe_int set_list))
      (pss_one (ps_ret (pv 3)))))
      pss_nil)
      (pss_cons (ps_set (i := 4) sc_law_draw.nd rfl (by first | exact Or.inl rfl | exact Or.inr rfl) (pe_op op_modN (pe_callTy call_int1 (by rfl) T.b_int (by decide +kernel) (pa_cons (pe_op op_pow (pe_op op_add (pe_ix ix_list (pv 0) pe_int (fun _ _ => rfl)) (pe_op op_mul (pe_ix ix_list (pv 0) pe_int (fun _ _ => rfl)) pe_int)) pe_int) pa_nil)) pe_int))
      (pss_one (ps_ret (pe_op op_modN (pe_callTy call_int1 (by rfl) T.b_int (by decide +kernel) (pa_cons (pe_op op_fdivN (pv 4) pe_int) pa_nil)) (pv 1)))))))), ?_⟩
  -- slots: 0:_law_pool_here 1:_law_limit 2:_law_cell 3:_law_digit 4:_law_mixed
  obtain ⟨x, y, rfl, p, k, lim, H0, rfl, rfl, hl, hl2, hk, ⟨sc, ns, a, b, c, e, bb, hp, hs0, a0, ak, b0, c0, e0, e1⟩, q⟩ := h
  have hs : ∀ H', But p H H' → SqL K H' sc (List.map V.int ns) := fun H' B => hs0 H' (bb.trans B)
  refine ⟨_, rfl, p, _, _, _, rfl, rfl, .of hp, rfl, _, _, rfl, rfl, _, rfl, p, _, _, 1, rfl, rfl, hp, rfl, ?_⟩
  have h1 : upd H p (.lst [.ref sc, .int (a + 1), .int b, .int c, .int e]) p = some (.lst [.ref sc, .int (a + 1), .int b, .int c, .int e]) := upd_same
  have B1 : But p H (upd H p (.lst [.ref sc, .int (a + 1), .int b, .int c, .int e])) := .put
  refine ⟨fun σ' H' => ∃ b c e v, σ' = [some (.ref p), some (.int lim), v, none, none] ∧ But p H H' ∧ H' p = some (.lst [.ref sc, .int (a + 1), .int b, .int c, .int e]) ∧ 0 ≤ b ∧ 0 ≤ c ∧ 0 ≤ e ∧ e < 2147483629, ?_, ?_⟩
  · show tIfS _ _ _ _ _ (upd H p (.lst [.ref sc, .int (a + 1), .int b, .int c, .int e]))
    generalize upd H p (.lst [.ref sc, .int (a + 1), .int b, .int c, .int e]) = H1 at h1 B1 ⊢
    have hs1 := hs _ B1
    refine ⟨_, rfl, p, _, _, _, rfl, rfl, .of h1, rfl, rfl, _, rfl, ?_⟩
    refine ite2 (fun c00 => ?_) fun _ => iteF ⟨b, c, e, none, rfl, B1, h1, b0, c0, e0, e1⟩
    refine ⟨_, rfl, p, _, _, _, rfl, rfl, .of h1, rfl, _, rfl, p, _, _, _, rfl, rfl, .of h1, rfl, _, _, rfl, .inl ⟨_, hs1, rfl⟩, _, _, rfl, rfl, _, rfl, ?_⟩
    refine ite2 (fun bl => ?_) fun _ => ⟨b, c, e, none, rfl, B1, h1, b0, c0, e0, e1⟩
    have bl' : b.toNat < ns.length := by
      have := of_decide_eq_true bl
      rw [List.length_map] at this
      omega
    have at_ : atI (ns.map V.int) b = some (.int (ns[b.toNat]'bl')) := by
      have := atI_nat (xs := ns.map V.int) (j := b.toNat) (v := .int (ns[b.toNat]'bl')) (by simp [bl'])
      rwa [Int.toNat_of_nonneg b0] at this
    refine ⟨_, rfl, p, _, _, _, rfl, rfl, .of h1, rfl, _, rfl, p, _, _, _, rfl, rfl, .of h1, rfl, sc, _, _, _, rfl, rfl, hs1, at_, _, rfl, ?_⟩
    generalize hcell : (if ns[b.toNat]'bl' < 0 then -ns[b.toNat]'bl' else ns[b.toNat]'bl') = cell
    have cell0 : 0 ≤ cell := by
      rw [← hcell]
      split <;> omega
    refine ⟨_, rfl, p, _, _, _, rfl, rfl, .of h1, rfl, _, _, rfl, rfl, _, rfl, p, _, _, 2, rfl, rfl, h1, rfl, ?_⟩
    have h2 : upd H1 p (.lst [.ref sc, .int (a + 1), .int (b + 1), .int c, .int e]) p = some (.lst [.ref sc, .int (a + 1), .int (b + 1), .int c, .int e]) := upd_same
    have B2 : But p H (upd H1 p (.lst [.ref sc, .int (a + 1), .int (b + 1), .int c, .int e])) := B1.trans .put
    refine ⟨_, rfl, _, _, rfl, rfl, ⟨by decide, by decide, by decide⟩, _, _, rfl, rfl, _, rfl, ?_⟩
    refine ite2 (fun big => ?_) fun small => ?_
    · refine ⟨_, rfl, _, rfl, p, _, _, 3, rfl, rfl, h2, rfl, ?_⟩
      exact ⟨b + 1, cell, e, _, rfl, B2.trans .put, upd_same, by omega, cell0, e0, e1⟩
    · refine ⟨_, rfl, p, _, _, _, rfl, rfl, .of h2, rfl, _, rfl, _, _, rfl, rfl, _, _, rfl, rfl, _, _, rfl, rfl, ?_, .inl ⟨_, rfl, _, _, rfl, rfl, (by show (2147483629 : Int) ≠ 0; decide), _, rfl, p, _, _, 4, rfl, rfl, h2, rfl, ?_⟩⟩
      · have small' : ¬ (10 : Int) ^ (18 : Int).toNat ≤ cell := fun z => small (decide_eq_true z)
        have e18 : (10 : Int) ^ (18 : Int).toNat = 1000000000000000000 := by decide
        rw [e18] at small'
        left
        constructor <;> omega
      · refine ⟨b + 1, c, _, _, rfl, B2.trans .put, upd_same, by omega, c0, ?_, ?_⟩
        · exact Int.fmod_nonneg_of_pos _ (by decide)
        · exact Int.fmod_lt_of_pos _ (by decide)
  · rintro σ' H' ⟨b, c, e, v, rfl, B, hp', b0, c0, e0, e1⟩
    refine ⟨_, rfl, p, _, _, _, rfl, rfl, .of hp', rfl, _, _, rfl, rfl, _, rfl, ?_⟩
    refine ite2 (fun pos => ?_) fun _ => ?_
    · have pos' : 0 < c := of_decide_eq_true pos
      refine ⟨_, rfl, p, _, _, _, rfl, rfl, .of hp', rfl, .inl ⟨_, rfl, _, rfl, _, _, rfl, rfl, (by show lim ≠ 0; omega), ?_⟩⟩
      refine ⟨_, rfl, p, _, _, _, rfl, rfl, .of hp', rfl, _, rfl, _, _, rfl, rfl, (by show lim ≠ 0 ∧ lim.natAbs < 1073741824; omega), _, rfl, p, _, _, 3, rfl, rfl, hp', rfl, _, rfl, ?_⟩
      refine q _ _ (Int.fmod_nonneg_of_pos _ hl) (Int.fmod_lt_of_pos _ hl) (B.trans .put) ⟨sc, ns, a + 1, b, Int.fdiv c lim, e, bb.trans (B.trans .put), upd_same, hs0, by omega, by omega, b0, ?_, e0, e1⟩
      rw [Int.fdiv_eq_ediv_of_nonneg _ (by omega)]
      exact Int.ediv_nonneg c0 (by omega)
    · refine ⟨_, rfl, p, _, _, _, rfl, rfl, .of hp', rfl, _, rfl, p, _, _, _, rfl, rfl, .of hp', rfl, _, _, rfl, rfl, ?_, _, _, rfl, rfl, _, _, rfl, rfl, ?_, .inl ⟨_, rfl, _, _, rfl, rfl, (by show (2147483647 : Int) ≠ 0; decide), ?_⟩⟩
      · left
        constructor <;> omega
      · refine ⟨by decide, by decide, ?_⟩
        show (e + (a + 1) * 7919).natAbs < 18446744073709551616
        omega
      · refine ⟨_, rfl, _, _, rfl, rfl, (by show (16 : Int) ≠ 0 ∧ (16 : Int).natAbs < 1073741824; decide), .inl ⟨_, rfl, _, rfl, _, _, rfl, rfl, (by show lim ≠ 0; omega), ?_⟩⟩
        exact q _ _ (Int.fmod_nonneg_of_pos _ hl) (Int.fmod_lt_of_pos _ hl) B ⟨sc, ns, a + 1, b, c, e, bb.trans B, hp', hs0, by omega, by omega, b0, c0, e0, e1⟩
end
end Sv
namespace Sv
open PySem PySem.Spec PyProof.Rows L2
/-! ### what stands for lots, webs, prices, tasks -/
abbrev cLot (K : PySem.W.Frag) : Addr := He.ga K "Lot"
abbrev cWeb (K : PySem.W.Frag) : Addr := He.ga K "Web"
abbrev cPr (K : PySem.W.Frag) : Addr := He.ga K "Prices"
abbrev cTask (K : PySem.W.Frag) : Addr := He.ga K "Task"
abbrev cNet (K : PySem.W.Frag) : Addr := He.ga K "Network"
abbrev cLeast (K : PySem.W.Frag) : Addr := He.ga K "Least"
section
variable {K : PySem.W.Frag} {H H' : Hp}
/-- beside an instance: what is told of tuples, lists, data stays when the instance is written -/
theorem Rd.but {a x : Addr} {u : HO} (b : But x H H') (n : a ≠ x) (h : Rd H a u) : Rd H' a u := h.imp (fun r => b _ _ n r) fun ⟨o, r⟩ => ⟨o, b _ _ n r⟩
theorem nx_rd {a x C dx : Addr} {fs : List (PySem.Str × V)} {u : HO} (e : H x = some (.ins C dx fs)) (h : Rd H a u) (nu : ∀ C dx fs, u ≠ .ins C dx fs) : a ≠ x := fun q => by
  subst q
  rcases h with r | ⟨o, r⟩ <;> rw [e] at r
  · exact nu _ _ _ (Option.some.inj r).symm
  · cases r
theorem SqT.bi {a x C dx : Addr} {fs : List (PySem.Str × V)} {xs : List V} (b : But x H H') (e : H x = some (.ins C dx fs)) (h : SqT K H a xs) : SqT K H' a xs :=
  h.imp (fun r => Rd.but b (nx_rd e r (by intro _ _ _ z; cases z)) r) id
theorem SqL.bi {a x C dx : Addr} {fs : List (PySem.Str × V)} {xs : List V} (b : But x H H') (e : H x = some (.ins C dx fs)) (h : SqL K H a xs) : SqL K H' a xs :=
  h.imp (fun r => Rd.but b (nx_rd e r (by intro _ _ _ z; cases z)) r) id
theorem tu_but {x C dx : Addr} {fs : List (PySem.Str × V)} (b : But x H H') (e : H x = some (.ins C dx fs)) : Tu H H' := fun _ _ r => Rd.but b (nx_rd e r (by intro _ _ _ z; cases z)) r
theorem tu_ext (e : Ext H H') : Tu H H' := (Im.of e).tu
theorem Tu.trans {H1 H2 H3 : Hp} (a : Tu H1 H2) (b : Tu H2 H3) : Tu H1 H3 := fun p xs h => b p xs (a p xs h)
theorem But.ext {x : Addr} (b : But x H H') {H0 : Hp} (e : Ext H0 H) (n : H0 x = none) : Ext H0 H' := fun a u h => b _ _ (ne_of_none h n) (e _ _ h)
/-- a new instance, then written -/
theorem mk_ext {x dx C : Addr} {fs : List (PySem.Str × V)} (hx : H x = none) (hd : H dx = none) (ne : dx ≠ x) (b : But x (upd (upd H dx (.own x)) x (.ins C dx fs)) H') : Ext H H' :=
  b.ext (Ext.upd' (Ext.upd hd) (by rw [upd_ne ne.symm]; exact hx)) hx
theorem mk_in {x dx C : Addr} {fs : List (PySem.Str × V)} (hx : H x = none) (hd : H dx = none) (ne : dx ≠ x) : Ext H (upd (upd H dx (.own x)) x (.ins C dx fs)) :=
  Ext.upd' (Ext.upd hd) (by rw [upd_ne ne.symm]; exact hx)
end
/-! ### lots -/
def Asc (l : List Int) : Prop := l.Pairwise (· < ·)
def IsLot (K : PySem.W.Frag) (H : Hp) (x : V) (ns : List Int) : Prop := ∃ p dx t, x = .ref p ∧ H p = some (.ins (cLot K) dx [("places", .ref t)]) ∧ SqT K H t (ns.map V.int) ∧ Asc ns
theorem IsLot.im {K : PySem.W.Frag} {H H' : Hp} {x : V} {ns : List Int} (h : IsLot K H x ns) (e : Im H H') : IsLot K H' x ns := by
  obtain ⟨p, dx, t, rfl, a, b, c⟩ := h
  exact ⟨p, dx, t, rfl, e.ins _ _ _ _ a, b.im e, c⟩
/-- a list, a tuple or a lot of whole numbers -/
def Itb (K : PySem.W.Frag) (H : Hp) (a : Addr) (ns : List Int) : Prop := ∃ J, Wk (cLot K) "places" K H a (ns.map V.int) J
theorem wk_ext {C : Addr} {f : PySem.Str} {K : PySem.W.Frag} {H H' : Hp} {a : Addr} {xs : List V} {J : It} (h : Wk C f K H a xs J) (e : Ext H H') : Wk C f K H' a xs J := by
  cases h with
  | l h => exact .l (h.ext e)
  | t h => exact .t (h.ext e)
  | o a b c => exact .o (e _ _ a) b (c.ext e)
theorem Itb.ext {K : PySem.W.Frag} {H H' : Hp} {a : Addr} {ns : List Int} (h : Itb K H a ns) (e : Ext H H') : Itb K H' a ns := h.imp fun _ z => wk_ext z e
theorem IsLot.itb {K : PySem.W.Frag} {H : Hp} {x : V} {ns : List Int} (h : IsLot K H x ns) : ∃ a, x = .ref a ∧ Itb K H a ns := by
  obtain ⟨p, dx, t, rfl, a, b, c⟩ := h
  exact ⟨p, rfl, _, .o a rfl b⟩
section
variable {C : Addr} {f : PySem.Str} {K : PySem.W.Frag} {H : Hp} {a : Addr} {xs : List V} {J : It}
theorem wk_stop (w : Wk C f K H a xs J) : J.stop xs.length H := by
  cases w with
  | l h => exact ⟨xs, h, Nat.le_refl _⟩
  | t h => exact ⟨xs, h, Nat.le_refl _⟩
  | o _ _ h => exact ⟨xs, h, Nat.le_refl _⟩
theorem wk_go (w : Wk C f K H a xs J) {i : Nat} {x : V} (hi : xs[i]? = some x) : J.go i H := by
  cases w with
  | l h => exact ⟨xs, x, h, hi⟩
  | t h => exact ⟨xs, x, h, hi⟩
  | o _ _ h => exact ⟨xs, x, h, hi⟩
theorem wk_yld (w : Wk C f K H a xs J) {i : Nat} {x y : V} {H' : Hp} (hi : xs[i]? = some x) (h' : J.yld i H y H') : y = x ∧ H' = H := by
  cases w with
  | l h => exact ⟨Option.some.inj ((h'.2 xs h).symm.trans hi), h'.1⟩
  | t h => exact ⟨Option.some.inj ((h'.2 xs h).symm.trans hi), h'.1⟩
  | o _ _ h => exact ⟨Option.some.inj ((h'.2 xs h).symm.trans hi), h'.1⟩
theorem for_any {g : TG} {tb : TS} {D : Ends} {σ : L2.St} {H0 : Hp} (w : Wk C f K H0 a xs J) (Pv : Nat → L2.St → Hp → Prop) (h0 : Pv 0 σ H) (hl : ∀ i σ H', Pv i σ H' → Ext H0 H')
    (hs : ∀ i x σ H, xs[i]? = some x → Pv i σ H → g x σ H fun σ2 H2 => tb { D with nx := Pv (i + 1), ct := Pv (i + 1), bk := D.nx } σ2 H2) (hd : ∀ σ H, Pv xs.length σ H → D.nx σ H) :
    ∃ W : Nat → Nat → L2.St → Hp → Prop, (∃ m, W 0 m σ H) ∧ ∀ i m σ H, W i m σ H →
      (J.stop i H ∧ D.nx σ H) ∨ (J.go i H ∧ ∃ N : L2.St → Hp → Prop, (∀ σ' H', N σ' H' → ∃ m', m' < m ∧ W (i + 1) m' σ' H') ∧ ∀ x H', J.yld i H x H' → g x σ H' fun σ2 H2 => tb { D with nx := N, ct := N, bk := D.nx } σ2 H2) := by
  refine ⟨fun i m σ H => m = xs.length - i ∧ i ≤ xs.length ∧ Pv i σ H, ⟨xs.length, rfl, Nat.zero_le _, h0⟩, ?_⟩
  rintro i m σ H1 ⟨rfl, hi, p⟩
  have w1 := wk_ext w (hl _ _ _ p)
  rcases Nat.lt_or_ge i xs.length with c | c
  · have hx : xs[i]? = some xs[i] := List.getElem?_eq_getElem c
    refine .inr ⟨wk_go w1 hx, Pv (i + 1), fun σ' H' p' => ⟨xs.length - (i + 1), by omega, rfl, c, p'⟩, fun x H' y => ?_⟩
    obtain ⟨rfl, rfl⟩ := wk_yld w1 hx y
    exact hs i _ σ _ hx p
  · obtain rfl : i = xs.length := Nat.le_antisymm hi c
    exact .inl ⟨wk_stop w1, hd _ _ p⟩
theorem lcD_any {g : TG} {tt : TT} {te : TE} {vs : List Nat} {σ : L2.St} {D : Addr} {Qd : Hp → Prop} (w : Wk C f K H a xs J) (F : Nat → Option PyData) (n : H D = none) (hz : xs.length ≤ sizeLine)
    (hs : ∀ i x H' (Nx : Hp → Prop), xs[i]? = some x → Ext H (Off D H') → Sv.Turn K D H' (F i) Nx → g x (wipe σ vs) H' fun σ2 H2 => wipe σ2 vs = wipe σ vs ∧ tt σ2 H2 fun b H3 =>
      if b = true then te σ2 H3 fun y H4 => ∃ acc, H4 D = some (.lst acc) ∧ acc.length < sizeLine ∧ Nx (upd H4 D (.lst (acc ++ [y]))) else Nx H3)
    (hd : ∀ H', Made K H D ((List.range xs.length).filterMap F) H' → Qd H') :
    ∃ W : Nat → Nat → Hp → Prop, (∃ m, W 0 m (upd H D (.lst []))) ∧ ∀ i m H, W i m H →
      (J.stop i H ∧ Qd H) ∨ (J.go i H ∧ ∃ Nx : Hp → Prop, (∀ H', Nx H' → ∃ m', m' < m ∧ W (i + 1) m' H') ∧ ∀ x H', J.yld i H x H' → g x (wipe σ vs) H' fun σ2 H2 => wipe σ2 vs = wipe σ vs ∧ tt σ2 H2 fun b H3 =>
        if b = true then te σ2 H3 fun y H4 => ∃ acc, H4 D = some (.lst acc) ∧ acc.length < sizeLine ∧ Nx (upd H4 D (.lst (acc ++ [y]))) else Nx H3) := by
  refine ⟨fun i m H1 => m = xs.length - i ∧ i ≤ xs.length ∧ MadeI K H D F i H1, ⟨xs.length, rfl, Nat.zero_le _, .new n⟩, ?_⟩
  rintro i m H1 ⟨rfl, hi, p⟩
  have w1 := wk_ext w p.x1
  rcases Nat.lt_or_ge i xs.length with c | c
  · have hx : xs[i]? = some xs[i] := List.getElem?_eq_getElem c
    refine .inr ⟨wk_go w1 hx, MadeI K H D F (i + 1), fun H' p' => ⟨xs.length - (i + 1), by omega, rfl, c, p'⟩, fun x H' y => ?_⟩
    obtain ⟨rfl, rfl⟩ := wk_yld w1 hx y
    exact hs i _ _ _ hx p.x0 (p.turn (Nat.lt_of_lt_of_le c hz))
  · obtain rfl : i = xs.length := Nat.le_antisymm hi c
    exact .inl ⟨wk_stop w1, hd _ p.made⟩
end
/-! ### the making of lots -/
def spAsc (K : PySem.W.Frag) : Sp := sp1 fun x H Q => ∃ a ns, x = .ref a ∧ Itb K H a ns ∧ ns.length < 60 ∧ ∀ t ms H', Ext H H' → SqT K H' t (List.map V.int ms) → Asc ms → (∀ k, k ∈ ms ↔ k ∈ ns) → Q (.ref t) H'
def spLotI (K : PySem.W.Frag) : Sp := sp2 fun o x H Q => ∃ p dx a ns, o = .ref p ∧ x = .ref a ∧ H p = some (.ins (cLot K) dx []) ∧ Itb K H a ns ∧ (∀ k ∈ ns, 0 ≤ k) ∧ ns.length < 60 ∧
  ∀ t ms H', But p H H' → H' p = some (.ins (cLot K) dx [("places", .ref t)]) → SqT K H' t (List.map V.int ms) → Asc ms → (∀ k, k ∈ ms ↔ k ∈ ns) → Q .non H'
section
variable {P : Program} {w : World} {K : PySem.W.Frag} {mg : PySem.Str → Option Value} {base : Heap}
theorem sc_Lot_iter : FnScope ["self"] ["self"] (defScope s_Lot_iter) := ⟨rfl, rfl, rfl, by decide +kernel, rfl, by decide +kernel, by decide +kernel⟩
theorem run_Lot_iter (T : Txt K mg) : ∃ fd, RunS P w K mg base 1 (He.ma K (cLot K) "__iter__") fd ["self"] (spIter (cLot K) "places" K) ∧ Binds K fd ["self"] [] := by
  obtain ⟨fd, F⟩ := T.f_Lot_iter
  refine ⟨fd, runS_of F sc_Lot_iter (fun n vs H Q E h => ?_) (fun cdv A outer s H vs Q hr h => ?_), F.bindsN fun _ _ _ _ _ _ us hl => match us, hl with | [_], _ => rfl⟩
  · obtain ⟨_, _, _, _, _, rfl, _⟩ := h
    rfl
  · obtain ⟨a, dx, fs, t, xs, rfl, ha, hf, ht, q⟩ := h
    refine ⟨_, pss_one (ps_ret (pe_callB call_iterT (by rfl) T.b_iter (by decide +kernel) (pa_cons (pe_fld (pv 0) rfl) pa_nil))), ?_⟩
    exact ⟨_, rfl, a, _, dx, _, _, rfl, ha, T.c_Lot, T.n_Lot_places, hf, t, xs, rfl, ht, q⟩
end
theorem own_it {X : Cx} (T : Txt X.K X.mg) : OwnIt X (cLot X.K) "places" 1 := by
  obtain ⟨fd, R, b⟩ := run_Lot_iter (P := X.prog) (w := X.w) (base := X.base) T
  exact ⟨_, fd, T.m_Lot_iter.at_, T.m_Lot_iter.fn, R, b⟩
section
variable {P : Program} {w : World} {K : PySem.W.Frag} {mg : PySem.Str → Option Value} {base : Heap}
theorem sc_ascending : FnScope ["numbers", "number"] ["numbers"] (defScope s_ascending) := ⟨rfl, rfl, rfl, by decide +kernel, rfl, by decide +kernel, by decide +kernel⟩
theorem c_ascending (T : Txt K mg) : C8.Cal P w K mg base 2 "ascending" (spAsc K) [] := by
  obtain ⟨fd, F⟩ := T.f_ascending
  refine calN F T.g_ascending sc_ascending (F.bindsN fun _ _ _ _ _ _ us hl => match us, hl with | [_], _ => rfl) len1 (fun cdv A outer s H vs Q E hr h => ?_)
  refine ⟨_, (pss_one (ps_ret (pe_callTy call_tuple_of (by rfl) T.b_tuple (by decide +kernel) (pa_cons (pe_callB (cr_sortedSet rfl) (by rfl) T.b_sorted (by decide +kernel) (pa_cons (pe_scI (own := [("number", 1)]) (g := gName 1) rfl sc_ascending.nd (pi_any (own_it T) hr (pv 0)) (blkOk_by (own := [("number", 1)]) (N := ["numbers", "number"]) (sc := defScope s_ascending) (by decide +kernel)) (fun _ _ _ _ _ => pg_name (i := 1) sc_ascending.nd rfl (by first | exact Or.inl rfl | exact Or.inr rfl)) (fun _ _ _ _ _ => (pe_callTy call_int1 (by rfl) T.b_int (by decide +kernel) (pa_cons (pv 1) pa_nil)))) pa_nil)) pa_nil)))), ?_⟩
  -- slots: 0:numbers 1:number
  obtain ⟨x, rfl, a, ns, rfl, ⟨J, hw⟩, hl, q⟩ := h
  refine ⟨_, rfl, a, _, J, rfl, hw, ns, by omega, fun D hD => ⟨fun S m => ?_, fun i k S m hi => ?_, fun S m hm hS => ?_⟩⟩
  · have z := wk_stop (wk_ext hw (Ext.upd (o := SetO w D S m) hD))
    rw [List.length_map] at z
    exact z
  · have w1 := wk_ext hw (Ext.upd (o := SetO w D S m) hD)
    have hx : (ns.map V.int)[i]? = some (.int k) := by rw [List.getElem?_map, hi]; rfl
    refine ⟨wk_go w1 hx, fun x H' y => ?_⟩
    obtain ⟨rfl, rfl⟩ := wk_yld w1 hx y
    exact ⟨rfl, _, rfl, .inl ⟨_, rfl, rfl, rfl⟩⟩
  · refine ⟨D, S, m, rfl, upd_same, by omega, fun ms p asc mem len hp => ⟨_, _, rfl, .inl ⟨.of upd_same, fun t ht => ?_⟩⟩⟩
    have x1 : Ext H (upd H D (SetO w D S m)) := Ext.upd hD
    refine q t ms _ ((x1.upd' hp).upd' ht) (.of upd_same) asc fun k => (mem k).trans (hS k)
theorem sc_Lot_init : FnScope ["self", "places", "place"] ["self", "places"] (defScope s_Lot_init) := ⟨rfl, rfl, rfl, by decide +kernel, rfl, by decide +kernel, by decide +kernel⟩
theorem mk_Lot (T : Txt K mg) : C8.Mak P w K mg base 3 "Lot" (He.ga K "Lot") (spLotI K) [] := by
  obtain ⟨fd, F⟩ := T.f_Lot_init
  refine makN T.k_Lot T.g_Lot F sc_Lot_init (F.bindsN fun _ _ _ _ _ _ us hl => match us, hl with | [_, _], _ => rfl) len2 (fun cdv A outer s H vs Q E hr h => ?_)
  refine ⟨_, (pss_cons (ps_for PassesOwn.never rfl (pi_any (own_it T) (hr.mono (by decide)) (pv 1)) (pg_name (i := 2) sc_Lot_init.nd rfl (by first | exact Or.inl rfl | exact Or.inr rfl))
      (pss_one (ps_if (pt_cmpR op_lt (pv 2) pe_int (nomark _)) (pss_one ps_never)
      pss_nil)))
      (pss_one (ps_fld (pv 0) (C8.pe_c (c_ascending T) hr (by decide) rfl (pa_cons (pv 1) pa_nil)) rfl))), ?_⟩
  -- slots: 0:self 1:places 2:place
  obtain ⟨o, x, rfl, p, dx, a, ns, rfl, rfl, hp, ⟨J, hw⟩, h0, hl, q⟩ := h
  refine ⟨_, rfl, a, _, J, rfl, hw, for_any hw (fun i σ H' => H' = H ∧ ∃ v, σ = [some (.ref p), some (.ref a), v]) ⟨rfl, none, rfl⟩ (fun i σ H' e => e.1 ▸ Ext.rfl') ?_ ?_⟩
  · rintro i x σ _ hi ⟨rfl, v, rfl⟩
    rw [List.getElem?_map] at hi
    cases e : ns[i]? with
    | none => rw [e] at hi; cases hi
    | some k =>
      rw [e] at hi
      cases hi
      have k0 := h0 k (List.mem_of_getElem? e)
      refine ⟨_, rfl, _, _, rfl, rfl, _, rfl, ?_⟩
      rw [decide_eq_false (by omega)]
      exact iteF ⟨rfl, _, rfl⟩
  · rintro σ _ ⟨rfl, v, rfl⟩
    refine ⟨_, rfl, _, rfl, a, ns, rfl, ⟨J, hw⟩, hl, fun t ms H' x1 ht asc mem => ?_⟩
    refine ⟨_, rfl, p, _, dx, _, rfl, x1 _ _ hp, T.c_Lot, T.n_Lot_places, (by show 0 < 1000; decide), ?_⟩
    exact q t ms _ ((But.of x1).trans .put) upd_same (SqT.bi .put (x1 _ _ hp) ht) asc mem
end
end Sv
namespace Sv
open PySem PySem.Spec PyProof.Rows L2
/-- Lot(..) is made -/
theorem lot_mk {K : PySem.W.Frag} {H1 : Hp} {a : Addr} {ns : List Int} {Q : VK} {E : XK} (hi : Itb K H1 a ns) (h0 : ∀ k ∈ ns, 0 ≤ k) (hl : ns.length < 60) (k : ∀ x ms H', Ext H1 H' → IsLot K H' x ms → (∀ k, k ∈ ms ↔ k ∈ ns) → Q x H') (x dx : Addr) (hx : H1 x = none) (hd : H1 dx = none) (ne : dx ≠ x) :
    spLotI K [.ref x, .ref a] (upd (upd H1 dx (.own x)) x (.ins (cLot K) dx [])) (fun v H2 => v = .non ∧ Q (.ref x) H2) E :=
  ⟨_, _, rfl, x, dx, a, ns, rfl, rfl, upd_same, hi.ext (mk_in hx hd ne), h0, hl, fun t ms H' b hp ht asc mem => ⟨rfl, k _ ms H' (mk_ext hx hd ne b) ⟨x, dx, t, rfl, hp, ht, asc⟩ mem⟩⟩
def spOr (K : PySem.W.Frag) : Sp := sp2 fun x y H Q => ∃ ns ms, IsLot K H x ns ∧ IsLot K H y ms ∧ (∀ k ∈ ns, 0 ≤ k) ∧ (∀ k ∈ ms, 0 ≤ k) ∧ ns.length + ms.length < 60 ∧
  ∀ z ks H', Ext H H' → IsLot K H' z ks → (∀ k, k ∈ ks ↔ k ∈ ns ∨ k ∈ ms) → Q z H'
def spSub (K : PySem.W.Frag) : Sp := sp2 fun x y H Q => ∃ ns ms, IsLot K H x ns ∧ IsLot K H y ms ∧ (∀ k ∈ ns, 0 ≤ k) ∧ ns.length + ms.length < 60 ∧
  ∀ z ks H', Ext H H' → IsLot K H' z ks → (∀ k, k ∈ ks ↔ k ∈ ns ∧ ¬ k ∈ ms) → Q z H'
theorem fm_filter (ns : List Int) (p : Int → Bool) : (List.range ns.length).filterMap (fun i => match ns[i]? with | some k => if p k = true then some (PyData.int k) else none | none => none) = (ns.filter p).map PyData.int := by
  induction ns with
  | nil => rfl
  | cons n ns ih =>
    rw [List.length_cons, List.range_succ_eq_map, List.filterMap_cons, List.filterMap_map]
    have e : (List.range ns.length).filterMap ((fun i => match (n :: ns)[i]? with | some k => if p k = true then some (PyData.int k) else none | none => none) ∘ Nat.succ) = (ns.filter p).map PyData.int := by
      rw [← ih]
      rfl
    rw [e]
    cases h : p n <;> simp [h]
/-- the items of a list that pass a test -/
def Ff (ns : List Int) (p : Int → Bool) (i : Nat) : Option PyData := match ns[i]? with | some k => if p k = true then some (PyData.int k) else none | none => none
theorem ff_all (ns : List Int) (p : Int → Bool) : (List.range (ns.map V.int).length).filterMap (Ff ns p) = (ns.filter p).map PyData.int := by
  rw [List.length_map]
  exact fm_filter ns p
theorem map_at {ns : List Int} {i : Nat} {x : V} (h : (ns.map V.int)[i]? = some x) : ∃ k, ns[i]? = some k ∧ x = .int k := by
  rw [List.getElem?_map] at h
  cases e : ns[i]? with
  | none => rw [e] at h; cases h
  | some k =>
    rw [e] at h
    exact ⟨k, rfl, (Option.some.inj h).symm⟩
theorem flat_ints (ns : List Int) : (ns.map V.int).all flatV = true := by
  rw [List.all_eq_true]
  intro x hx
  obtain ⟨k, _, rfl⟩ := List.mem_map.mp hx
  rfl
theorem inV_ints (k : Int) (ns : List Int) : inV (.int k) (ns.map V.int) = decide (k ∈ ns) := by
  unfold inV
  induction ns with
  | nil => rfl
  | cons n ns ih =>
    rw [List.map_cons, List.any_cons, ih]
    have e : eqV (.int n) (.int k) = decide (n = k) := by
      by_cases h : n = k
      · rw [decide_eq_true h, h]
        exact beq_self_eq_true k
      · rw [decide_eq_false h]
        exact beq_eq_false_iff_ne.mpr h
    rw [e]
    by_cases h : n = k
    · simp [h]
    · simp [h, Ne.symm h]
section
variable {P : Program} {w : World} {K : PySem.W.Frag} {mg : PySem.Str → Option Value} {base : Heap}
theorem sc_Lot_len : FnScope ["self"] ["self"] (defScope s_Lot_len) := ⟨rfl, rfl, rfl, by decide +kernel, rfl, by decide +kernel, by decide +kernel⟩
theorem fn_Lot_len (T : Txt K mg) : ∃ fd, FnOk P w K mg base CX0 1 (He.ma K (cLot K) "__len__") fd ["self"] (spLen (cLot K) "places" K) ∧ Binds K fd ["self"] [] := by
  obtain ⟨fd, F⟩ := T.f_Lot_len
  refine ⟨fd, fnN F sc_Lot_len (fun vs H Q E h => ?_) (fun cdv A outer s H vs Q E hr h => ?_), F.bindsN fun _ _ _ _ _ _ us hl => match us, hl with | [_], _ => rfl⟩
  · obtain ⟨_, _, _, _, _, rfl, _⟩ := h
    rfl
  · obtain ⟨a, dx, fs, t, xs, rfl, ha, hf, ht, q⟩ := h
    refine ⟨_, pss_one (ps_ret (pe_callB call_len (by rfl) T.b_len (by decide +kernel) (pa_cons (pe_fld (pv 0) rfl) pa_nil))), ?_⟩
    exact ⟨_, rfl, a, _, dx, _, _, rfl, ha, T.c_Lot, T.n_Lot_places, hf, _, _, rfl, .inr ⟨_, ht, rfl⟩, q⟩
end
theorem own_len {X : Cx} (T : Txt X.K X.mg) : OwnLen X (cLot X.K) "places" 1 := by
  obtain ⟨fd, F, b⟩ := fn_Lot_len (P := X.prog) (w := X.w) (base := X.base) T
  exact ⟨_, fd, T.m_Lot_len.at_, T.m_Lot_len.fn, F, b⟩
section
variable {P : Program} {w : World} {K : PySem.W.Frag} {mg : PySem.Str → Option Value} {base : Heap}
theorem sc_Lot_or : FnScope ["self", "other"] ["self", "other"] (defScope s_Lot_or) := ⟨rfl, rfl, rfl, by decide +kernel, rfl, by decide +kernel, by decide +kernel⟩
theorem mt_Lot_or (T : Txt K mg) : C8.Met P w K mg base 5 (He.ga K "Lot") "__or__" (spOr K) [] := by
  obtain ⟨fd, F⟩ := T.f_Lot_or
  refine metN T.c_Lot T.m_Lot_or F sc_Lot_or (F.bindsN fun _ _ _ _ _ _ us hl => match us, hl with | [_, _], _ => rfl) len2 (fun cdv A outer s H vs Q E hr h => ?_)
  refine ⟨_, (pss_one (ps_ret (C8.pe_mk (mk_Lot T) hr (by decide) rfl (pa_cons (pe_lst (StX.pa_star (pe_fld (pv 0) rfl) (StX.pa_star (pe_fld (pv 1) rfl) pa_nil))) pa_nil)))), ?_⟩
  -- slots: 0:self 1:other
  obtain ⟨x, y, rfl, ns, ms, ⟨p, dx, t, rfl, hp, ht, a1⟩, ⟨p', dx', t', rfl, hp', ht', a2⟩, h0, h1, hl, q⟩ := h
  refine ⟨_, rfl, p, _, dx, _, _, rfl, hp, T.c_Lot, T.n_Lot_places, rfl, t, _, rfl, .inl ht, _, rfl, p', _, dx', _, _, rfl, hp', T.c_Lot, T.n_Lot_places, rfl, t', _, rfl, .inl ht', ?_⟩
  refine ⟨by simp only [List.length_append, List.length_map, List.length_nil]; rw [sizeLine_eq]; omega, fun l hl1 => ?_⟩
  have e : upd H l (.lst ((ns.map V.int) ++ ((ms.map V.int) ++ []))) l = some (.lst ((ns ++ ms).map V.int)) := by rw [upd_same, List.append_nil, List.map_append]
  refine lot_mk (ns := ns ++ ms) ⟨_, .l (.of e)⟩ ?_ (by rw [List.length_append]; omega) fun x ks H' x1 lot mem => q x ks H' ((Ext.upd hl1).trans x1) lot fun k => (mem k).trans List.mem_append
  intro k hk
  exact (List.mem_append.mp hk).elim (h0 k) (h1 k)
theorem sc_Lot_sub : FnScope ["self", "other", "place"] ["self", "other"] (defScope s_Lot_sub) := ⟨rfl, rfl, rfl, by decide +kernel, rfl, by decide +kernel, by decide +kernel⟩
theorem mt_Lot_sub (T : Txt K mg) : C8.Met P w K mg base 5 (He.ga K "Lot") "__sub__" (spSub K) [] := by
  obtain ⟨fd, F⟩ := T.f_Lot_sub
  refine metN T.c_Lot T.m_Lot_sub F sc_Lot_sub (F.bindsN fun _ _ _ _ _ _ us hl => match us, hl with | [_, _], _ => rfl) len2 (fun cdv A outer s H vs Q E hr h => ?_)
  refine ⟨_, (pss_one (ps_ret (C8.pe_mk (mk_Lot T) hr (by decide) rfl (pa_cons (pe_lc (own := [("place", 2)]) (g := gName 2) (tt := _) rfl sc_Lot_sub.nd (pi_tup (pe_fld (pv 0) rfl)) (blkOk_by (own := [("place", 2)]) (N := ["self", "other", "place"]) (sc := defScope s_Lot_sub) (by decide +kernel)) (fun _ _ _ _ _ => pg_name (i := 2) sc_Lot_sub.nd rfl (by first | exact Or.inl rfl | exact Or.inr rfl)) (fun _ _ _ _ _ => pts_one (pt_cmpR (op_notInK K rfl) (pv 2) (pe_fldK K rfl (pv 1) rfl) (by rfl))) (fun _ _ _ _ _ => (pv 2))) pa_nil)))), ?_⟩
  -- slots: 0:self 1:other 2:place
  obtain ⟨x, y, rfl, ns, ms, ⟨p, dx, t, rfl, hp, ht, a1⟩, ⟨p', dx', t', rfl, hp', ht', a2⟩, h0, hl, q⟩ := h
  refine ⟨_, rfl, p, _, dx, _, _, rfl, hp, T.c_Lot, T.n_Lot_places, rfl, t, rfl, ⟨_, ht⟩, fun D hD => lcD_tup (Ff ns fun k => !decide (k ∈ ms)) hD ht (by rw [List.length_map, sizeLine_eq]; omega) (fun i v H' Nx hi x1 tn => ?_) fun H' md => ?_⟩
  · obtain ⟨k, hk, rfl⟩ := map_at hi
    have x2 : Ext H H' := x1.trans off_le
    refine ⟨rfl, _, rfl, _, rfl, p', _, dx', _, _, rfl, x2 _ _ hp', T.c_Lot, T.n_Lot_places, rfl, t', _, rfl, .inr (ht'.ext x2), rfl, flat_ints _, _, rfl, ?_⟩
    show if (!inV (V.int k) (ms.map V.int)) = true then _ else _
    rw [inV_ints]
    by_cases hm : k ∈ ms
    · rw [decide_eq_true hm]
      exact iteF (tn.drop0 (by simp [Ff, hk, hm]))
    · rw [decide_eq_false hm]
      exact iteT ⟨_, rfl, tn.keep0 (d := .int k) (by simp [Ff, hk, hm]) (.int k)⟩
  · rw [ff_all] at md
    obtain ⟨acc, x1, hD', al⟩ := md
    obtain rfl := al.intsI
    refine lot_mk ⟨_, .l (.of hD')⟩ (fun k hk => h0 k (List.mem_filter.mp hk).1) (by have := List.length_filter_le (fun k => !decide (k ∈ ms)) ns; omega) fun z ks H2 x2 lot mem => ?_
    refine q z ks H2 ((x1.trans off_le).trans x2) lot fun k => ?_
    rw [mem k, List.mem_filter]
    simp
end
end Sv
namespace Sv
open PySem PySem.Spec PyProof.Rows L2
/-! ### tables by their keys -/
def dG {κ : Type} (ks : List κ) (f : κ → V) : List (κ × V) := ks.map fun k => (k, f k)
section
variable {κ : Type} [DecidableEq κ]
theorem dg_val (ks : List κ) (f : κ → V) (k : κ) : valV (dG ks f) k = if k ∈ ks then some (f k) else none := by
  induction ks with
  | nil => rfl
  | cons x xs ih =>
    by_cases h : x = k
    · subst h
      rw [if_pos List.mem_cons_self]
      exact valV_pos (p := (x, f x)) rfl
    · rw [show dG (x :: xs) f = (x, f x) :: dG xs f from rfl, valV_neg (p := (x, f x)) h, ih]
      by_cases q : k ∈ xs
      · rw [if_pos q, if_pos (List.mem_cons_of_mem _ q)]
      · rw [if_neg q, if_neg fun z => (List.mem_cons.mp z).elim (fun z => h z.symm) q]
theorem dg_any (ks : List κ) (f : κ → V) (k : κ) : ((dG ks f).any fun kv => decide (kv.1 = k)) = decide (k ∈ ks) := by
  rw [valV_any, dg_val]
  by_cases h : k ∈ ks
  · rw [if_pos h, decide_eq_true h]
    rfl
  · rw [if_neg h, decide_eq_false h]
    rfl
theorem dg_new {ks : List κ} {f : κ → V} {k : κ} (v : V) (h : ¬ k ∈ ks) : putK (dG ks f) k v = dG (ks ++ [k]) (fun j => if j = k then v else f j) := by
  unfold putK
  rw [dg_any, decide_eq_false h, if_neg Bool.false_ne_true]
  unfold dG
  rw [List.map_append, List.map_cons, List.map_nil]
  have e : (ks.map fun k => (k, f k)) = ks.map fun j => (j, if j = k then v else f j) := List.map_congr_left fun x hx => by
    have hne : ¬ x = k := fun z => h (by rw [← z]; exact hx)
    simp only [if_neg hne]
  rw [e]
  simp
theorem dg_set {ks : List κ} {f : κ → V} {k : κ} (v : V) (h : k ∈ ks) : putK (dG ks f) k v = dG ks (fun j => if j = k then v else f j) := by
  unfold putK
  rw [dg_any, decide_eq_true h, if_pos rfl]
  unfold dG
  rw [List.map_map]
  refine List.map_congr_left fun x hx => ?_
  show (if x = k then (x, v) else (x, f x)) = (x, if x = k then v else f x)
  by_cases q : x = k
  · rw [if_pos q, if_pos q]
  · rw [if_neg q, if_neg q]
theorem dg_len (ks : List κ) (f : κ → V) : (dG ks f).length = ks.length := List.length_map _
theorem dg_congr {ks : List κ} {f g : κ → V} (h : ∀ k ∈ ks, f k = g k) : dG ks f = dG ks g := List.map_congr_left fun k hk => by rw [h k hk]
end
theorem dg_newc {κ : Type} [DecidableEq κ] {ks : List κ} {k : κ} {c : V} (h : ¬ k ∈ ks) : putK (dG ks fun _ => c) k c = dG (ks ++ [k]) fun _ => c := by
  rw [dg_new _ h]
  exact dg_congr fun j _ => ite_self _
theorem dg_setc {κ : Type} [DecidableEq κ] {ks : List κ} {k : κ} {c : V} (h : k ∈ ks) : putK (dG ks fun _ => c) k c = dG ks fun _ => c := by
  rw [dg_set _ h]
  exact dg_congr fun j _ => ite_self _
theorem nodup_snoc {α : Type} {l : List α} {x : α} (h : l.Nodup) (n : ¬ x ∈ l) : (l ++ [x]).Nodup := by
  rw [List.nodup_append]
  exact ⟨h, by simp, fun a ha b hb => by rw [List.mem_singleton.mp hb]; exact fun z => n (z ▸ ha)⟩
/-- no more than there are -/
theorem nodup_le {α : Type} [DecidableEq α] : ∀ (l u : List α), l.Nodup → (∀ x ∈ l, x ∈ u) → l.length ≤ u.length
  | [], _, _, _ => Nat.zero_le _
  | x :: l, u, hn, hs => by
    obtain ⟨h1, h2⟩ := List.nodup_cons.mp hn
    have hx : x ∈ u := hs x List.mem_cons_self
    have q := nodup_le l (u.erase x) h2 fun y hy => (List.mem_erase_of_ne (fun z : y = x => h1 (by rw [← z]; exact hy))).mpr (hs y (List.mem_cons_of_mem _ hy))
    rw [List.length_erase_of_mem hx] at q
    have hu : 0 < u.length := List.length_pos_of_mem hx
    rw [List.length_cons]
    omega
/-- whole numbers as keys -/
abbrev ik (ks : List Int) : List Key := ks.map Sum.inl
theorem mem_ik {k : Int} {ks : List Int} : ((Sum.inl k : Key) ∈ ik ks) ↔ k ∈ ks := by
  constructor
  · intro h
    obtain ⟨j, hj, e⟩ := List.mem_map.mp h
    cases e
    exact hj
  · intro h
    exact List.mem_map.mpr ⟨k, h, rfl⟩
theorem ik_snoc (ks : List Int) (k : Int) : ik ks ++ [Sum.inl k] = ik (ks ++ [k]) := by
  unfold ik
  rw [List.map_append]
  rfl
section
variable {C : Addr} {f : PySem.Str} {K : PySem.W.Frag} {H : Hp} {a : Addr} {xs : List V} {J : It}
/-- a dict comprehension over list, tuple, own iterable -/
theorem dc_any {g : TG} {tt : TT} {tk tv : TE} {vs : List Nat} {σ : L2.St} {D : Addr} {Qd : Hp → Prop} (w : Wk C f K H a xs J) (n : H D = none) (Pv : Nat → Hp → Prop) (h0 : Pv 0 (upd H D (.dK []))) (hl : ∀ i H', Pv i H' → Ext H H')
    (hs : ∀ i x H', xs[i]? = some x → Pv i H' → g x (wipe σ vs) H' fun σ2 H2 => wipe σ2 vs = wipe σ vs ∧ tt σ2 H2 fun b H3 =>
      if b = true then tk σ2 H3 fun y H4 => tv σ2 H4 fun z H5 => ∃ kvs k, y = kV k ∧ H5 D = some (.dK kvs) ∧ kvs.length < sizeLine ∧ Pv (i + 1) (upd H5 D (.dK (putK kvs k z))) else Pv (i + 1) H3)
    (hd : ∀ H', Pv xs.length H' → Qd H') :
    ∃ W : Nat → Nat → Hp → Prop, (∃ m, W 0 m (upd H D (.dK []))) ∧ ∀ i m H, W i m H →
      (J.stop i H ∧ Qd H) ∨ (J.go i H ∧ ∃ Nx : Hp → Prop, (∀ H', Nx H' → ∃ m', m' < m ∧ W (i + 1) m' H') ∧ ∀ x H', J.yld i H x H' → g x (wipe σ vs) H' fun σ2 H2 => wipe σ2 vs = wipe σ vs ∧ tt σ2 H2 fun b H3 =>
        if b = true then tk σ2 H3 fun y H4 => tv σ2 H4 fun z H5 => ∃ kvs k, y = kV k ∧ H5 D = some (.dK kvs) ∧ kvs.length < sizeLine ∧ Nx (upd H5 D (.dK (putK kvs k z))) else Nx H3) := by
  refine ⟨fun i m H1 => m = xs.length - i ∧ i ≤ xs.length ∧ Pv i H1, ⟨xs.length, rfl, Nat.zero_le _, h0⟩, ?_⟩
  rintro i m H1 ⟨rfl, hi, p⟩
  have w1 := wk_ext w (hl _ _ p)
  rcases Nat.lt_or_ge i xs.length with c | c
  · have hx : xs[i]? = some xs[i] := List.getElem?_eq_getElem c
    refine .inr ⟨wk_go w1 hx, Pv (i + 1), fun H' p' => ⟨xs.length - (i + 1), by omega, rfl, c, p'⟩, fun x H' y => ?_⟩
    obtain ⟨rfl, rfl⟩ := wk_yld w1 hx y
    exact hs i _ _ hx p
  · obtain rfl : i = xs.length := Nat.le_antisymm hi c
    exact .inl ⟨wk_stop w1, hd _ p⟩
end
/-! ### pairs of whole numbers -/
abbrev Gt := List (Int × Int)
def eP (p : Int × Int) : PyData := .tuple [.int p.1, .int p.2]
theorem Dp.eP {K : PySem.W.Frag} {H : Hp} {v : V} {p : Int × Int} (h : Dp K H v (eP p)) : ∃ t, v = .ref t ∧ SqT K H t [.int p.1, .int p.2] := by
  obtain ⟨t, xs, rfl, s, q⟩ := h.tupI
  obtain ⟨x, y, rfl, a, b⟩ := q.two
  rw [a.intI, b.intI] at s
  exact ⟨t, rfl, s⟩
theorem eP_nl (p : Int × Int) : nl (eP p) = true := rfl
theorem ePs_nl (ps : Gt) : nlAll (ps.map eP) = true := by
  induction ps with
  | nil => rfl
  | cons p ps ih => simp [nlAll, eP_nl, ih]
theorem ePs_get {K : PySem.W.Frag} {H : Hp} {xs : List V} {ps : Gt} {i : Nat} {x : V} (h : DpAll K H xs (ps.map eP)) (e : xs[i]? = some x) : ∃ p t, ps[i]? = some p ∧ x = .ref t ∧ SqT K H t [.int p.1, .int p.2] := by
  obtain ⟨d, hd, q⟩ := h.get e
  rw [List.getElem?_map] at hd
  cases z : ps[i]? with
  | none => rw [z] at hd; cases hd
  | some p =>
    rw [z] at hd
    cases hd
    obtain ⟨t, rfl, s⟩ := Dp.eP q
    exact ⟨p, t, rfl, rfl, s⟩
/-! ### slices -/
theorem cut_take (xs : List V) (k : Nat) : cutV xs none (some (k : Int)) = xs.take k := by
  unfold cutV
  rw [HT.sIx_none, HT.sIx_nat, List.drop_zero, Nat.sub_zero]
  rcases Nat.le_total k xs.length with h | h
  · rw [Nat.min_eq_left h]
  · rw [Nat.min_eq_right h, List.take_length, List.take_of_length_le h]
theorem cut_drop (xs : List V) (k : Nat) : cutV xs (some (k : Int)) none = xs.drop k := by
  unfold cutV
  rw [HT.sIx_none, HT.sIx_nat]
  rcases Nat.le_total k xs.length with h | h
  · rw [Nat.min_eq_left h, List.take_of_length_le (by rw [List.length_drop]; omega)]
  · rw [Nat.min_eq_right h, List.drop_length, List.drop_of_length_le h]
    simp
section
variable {K : PySem.W.Frag} {H : Hp} {a : Addr} {xs : List V} {ds : List PyData} {Q : VK}
theorem slT_take (h : SqT K H a xs) (al : DpAll K H xs ds) (k : Nat) (q : ∀ x H', Ext H H' → Dp K H' x (.tuple (ds.take k)) → Q x H') : rSlA K (.ref a) none (some (k : Int)) H Q := by
  refine ⟨a, xs, rfl, h, fun w => ?_, fun _ p hp => ?_⟩
  · obtain ⟨_, w⟩ := w
    rw [HT.sIx_nat] at w
    have e : ds.take k = ds := List.take_of_length_le (by rw [← al.len]; omega)
    exact q _ H Ext.rfl' (by rw [e]; exact .tup h al)
  · rw [cut_take]
    exact q _ _ (Ext.upd hp) (.tup (.of upd_same) ((al.take k).ext (Ext.upd hp)))
theorem slT_drop (h : SqT K H a xs) (al : DpAll K H xs ds) (k : Nat) (q : ∀ x H', Ext H H' → Dp K H' x (.tuple (ds.drop k)) → Q x H') : rSlA K (.ref a) (some (k : Int)) none H Q := by
  refine ⟨a, xs, rfl, h, fun w => ?_, fun _ p hp => ?_⟩
  · obtain ⟨w, _⟩ := w
    rw [HT.sIx_nat] at w
    have l := al.len
    rcases Nat.eq_zero_or_pos k with rfl | z
    · exact q _ H Ext.rfl' (.tup h al)
    · have l0 : xs.length = 0 := by omega
      have e1 : xs = [] := List.length_eq_zero_iff.mp l0
      have e2 : ds = [] := List.length_eq_zero_iff.mp (by omega)
      subst e1 e2
      exact q _ H Ext.rfl' (.tup h (by simpa using DpAll.nil))
  · rw [cut_drop]
    exact q _ _ (Ext.upd hp) (.tup (.of upd_same) ((al.drop k).ext (Ext.upd hp)))
theorem slL_take (h : SqL K H a xs) (k : Nat) (q : ∀ p, H p = none → Q (.ref p) (upd H p (.lst (xs.take k)))) : rSlL K (.ref a) none (some (k : Int)) H Q := by
  refine ⟨a, xs, rfl, h, fun p hp => ?_⟩
  rw [cut_take]
  exact q p hp
theorem slL_drop (h : SqL K H a xs) (k : Nat) (q : ∀ p, H p = none → Q (.ref p) (upd H p (.lst (xs.drop k)))) : rSlL K (.ref a) (some (k : Int)) none H Q := by
  refine ⟨a, xs, rfl, h, fun p hp => ?_⟩
  rw [cut_drop]
  exact q p hp
end
/-- what stands ahead is unlike -/
theorem any_eqv_pairs (p : Int × Int) (l : Gt) (h : ¬ p ∈ l) : ((l.map eP).any fun z => PyData.eqv z (eP p)) = false := by
  rw [List.any_eq_false]
  intro z hz
  obtain ⟨q, hq, rfl⟩ := List.mem_map.mp hz
  intro e
  have := (eqv_iff (eP q) (eP p) rfl rfl).mp e
  unfold eP at this
  simp only [PyData.tuple.injEq, List.cons.injEq, PyData.int.injEq, and_true] at this
  exact h (by rw [show p = q from Prod.ext this.1.symm this.2.symm]; exact hq)
theorem for_enumT {K : PySem.W.Frag} {a : Addr} {xs : List V} {g : TG} {tb : TS} {D : Ends} {σ : L2.St} {H : Hp} (Pv : Nat → L2.St → Hp → Prop) (h0 : Pv 0 σ H) (hl : ∀ i σ H', Pv i σ H' → SqT K H' a xs)
    (hs : ∀ i x σ H T, xs[i]? = some x → Pv i σ H → H T = none → g (.ref T) σ (upd H T (.tup [.int (i : Nat), x])) fun σ2 H2 => tb { D with nx := Pv (i + 1), ct := Pv (i + 1), bk := D.nx } σ2 H2) (hd : ∀ σ H, Pv xs.length σ H → D.nx σ H) :
    ∃ W : Nat → Nat → L2.St → Hp → Prop, (∃ m, W 0 m σ H) ∧ ∀ i m σ H, W i m σ H →
      ((IteT K a).stop i H ∧ D.nx σ H) ∨ ((IteT K a).go i H ∧ ∃ N : L2.St → Hp → Prop, (∀ σ' H', N σ' H' → ∃ m', m' < m ∧ W (i + 1) m' σ' H') ∧ ∀ x H', (IteT K a).yld i H x H' → g x σ H' fun σ2 H2 => tb { D with nx := N, ct := N, bk := D.nx } σ2 H2) := by
  refine ⟨fun i m σ H => m = xs.length - i ∧ i ≤ xs.length ∧ Pv i σ H, ⟨xs.length, rfl, Nat.zero_le _, h0⟩, ?_⟩
  rintro i m σ H1 ⟨rfl, hi, p⟩
  have w1 := hl _ _ _ p
  rcases Nat.lt_or_ge i xs.length with c | c
  · have hx : xs[i]? = some xs[i] := List.getElem?_eq_getElem c
    refine .inr ⟨⟨xs, _, w1, hx⟩, Pv (i + 1), fun σ' H' p' => ⟨xs.length - (i + 1), by omega, rfl, c, p'⟩, fun x H' y => ?_⟩
    obtain ⟨T, x', rfl, hT, rfl, e⟩ := y
    have ex := e xs w1
    exact hs i x' σ _ T ex p hT
  · obtain rfl : i = xs.length := Nat.le_antisymm hi c
    exact .inl ⟨⟨xs, w1, c⟩, hd _ _ p⟩
theorem for_enumL {K : PySem.W.Frag} {a : Addr} {xs : List V} {g : TG} {tb : TS} {D : Ends} {σ : L2.St} {H : Hp} (Pv : Nat → L2.St → Hp → Prop) (h0 : Pv 0 σ H) (hl : ∀ i σ H', Pv i σ H' → SqL K H' a xs)
    (hs : ∀ i x σ H T, xs[i]? = some x → Pv i σ H → H T = none → g (.ref T) σ (upd H T (.tup [.int (i : Nat), x])) fun σ2 H2 => tb { D with nx := Pv (i + 1), ct := Pv (i + 1), bk := D.nx } σ2 H2) (hd : ∀ σ H, Pv xs.length σ H → D.nx σ H) :
    ∃ W : Nat → Nat → L2.St → Hp → Prop, (∃ m, W 0 m σ H) ∧ ∀ i m σ H, W i m σ H →
      ((Ite K a).stop i H ∧ D.nx σ H) ∨ ((Ite K a).go i H ∧ ∃ N : L2.St → Hp → Prop, (∀ σ' H', N σ' H' → ∃ m', m' < m ∧ W (i + 1) m' σ' H') ∧ ∀ x H', (Ite K a).yld i H x H' → g x σ H' fun σ2 H2 => tb { D with nx := N, ct := N, bk := D.nx } σ2 H2) := by
  refine ⟨fun i m σ H => m = xs.length - i ∧ i ≤ xs.length ∧ Pv i σ H, ⟨xs.length, rfl, Nat.zero_le _, h0⟩, ?_⟩
  rintro i m σ H1 ⟨rfl, hi, p⟩
  have w1 := hl _ _ _ p
  rcases Nat.lt_or_ge i xs.length with c | c
  · have hx : xs[i]? = some xs[i] := List.getElem?_eq_getElem c
    refine .inr ⟨⟨xs, _, w1, hx⟩, Pv (i + 1), fun σ' H' p' => ⟨xs.length - (i + 1), by omega, rfl, c, p'⟩, fun x H' y => ?_⟩
    obtain ⟨T, x', rfl, hT, rfl, e⟩ := y
    have ex := e xs w1
    exact hs i x' σ _ T ex p hT
  · obtain rfl : i = xs.length := Nat.le_antisymm hi c
    exact .inl ⟨⟨xs, w1, c⟩, hd _ _ p⟩
theorem nodup_take {α : Type} {l : List α} {i : Nat} {x : α} (h : l.Nodup) (e : l[i]? = some x) : ¬ x ∈ l.take i := by
  obtain ⟨hl, rfl⟩ := List.getElem?_eq_some_iff.mp e
  have q : l = l.take i ++ l.drop i := (List.take_append_drop i l).symm
  rw [List.drop_eq_getElem_cons hl] at q
  intro z
  rw [q, List.nodup_append] at h
  exact h.2.2 _ z _ List.mem_cons_self rfl
end Sv
namespace Sv
open PySem PySem.Spec PyProof.Rows L2
/-! ### webs: what is reached -/
/-- a list or tuple of pairs -/
def Prs (K : PySem.W.Frag) (H : Hp) (a : Addr) (ps : Gt) : Prop := ∃ xs, (SqL K H a xs ∨ SqT K H a xs) ∧ DpAll K H xs (ps.map eP)
theorem Prs.ext {K : PySem.W.Frag} {H H' : Hp} {a : Addr} {ps : Gt} (h : Sv.Prs K H a ps) (e : Ext H H') : Sv.Prs K H' a ps := by
  obtain ⟨xs, h1, h2⟩ := h
  exact ⟨xs, h1.imp (fun z => z.ext e) fun z => z.ext e, h2.ext e⟩
theorem Prs.wk {K : PySem.W.Frag} {H : Hp} {a : Addr} {ps : Gt} (h : Sv.Prs K H a ps) : ∃ xs J, Wk (cLot K) "places" K H a xs J ∧ DpAll K H xs (ps.map eP) := by
  obtain ⟨xs, h1, h2⟩ := h
  rcases h1 with h1 | h1
  · exact ⟨xs, _, .l h1, h2⟩
  · exact ⟨xs, _, .t h1, h2⟩
theorem ints_itb {K : PySem.W.Frag} {H : Hp} {a : Addr} {ns : List Int} (h : SqL K H a (ns.map V.int) ∨ SqT K H a (ns.map V.int)) : Itb K H a ns := by
  rcases h with h | h
  · exact ⟨_, .l h⟩
  · exact ⟨_, .t h⟩
def InR (n : Int) (k : Int) : Prop := 0 ≤ k ∧ k < n
def spReached (K : PySem.W.Frag) : Sp := sp2 fun x y H Q => ∃ a ps b ss n, x = .ref a ∧ y = .ref b ∧ Sv.Prs K H a ps ∧ (SqL K H b (List.map V.int ss) ∨ SqT K H b (List.map V.int ss)) ∧ n < 100 ∧ (∀ p ∈ ps, InR n p.1 ∧ InR n p.2) ∧ (∀ s ∈ ss, InR n s) ∧ ss.length < 100 ∧ ps.length < 1000 ∧
  ∀ d ks f H', Ext H H' → H' d = some (.dK (dG (ik ks) f)) → (∀ s ∈ ss, s ∈ ks) → (∀ p ∈ ps, p.1 ∈ ks → p.2 ∈ ks) → Q (.ref d) H'
/-- the places below n -/
def below (n : Int) : List Int := (List.range n.toNat).map Int.ofNat
theorem mem_below {n k : Int} : k ∈ below n ↔ InR n k := by
  unfold below InR
  constructor
  · intro h
    obtain ⟨j, hj, rfl⟩ := List.mem_map.mp h
    have := List.mem_range.mp hj
    constructor
    · exact Int.natCast_nonneg j
    · show (j : Int) < n
      omega
  · rintro ⟨h1, h2⟩
    exact List.mem_map.mpr ⟨k.toNat, List.mem_range.mpr (by omega), Int.toNat_of_nonneg h1⟩
theorem below_len {n : Int} : (below n).length = n.toNat := by
  unfold below
  rw [List.length_map, List.length_range]
/-- the loop of reached; ex: what is left open of the place in work -/
def ReI (H : Hp) (a b D L : Addr) (ss : List Int) (ps : Gt) (n : Int) (ex : Int × Int → Prop) (m : Nat) (σ : L2.St) (H' : Hp) : Prop := ∃ (ks tds : List Int) (v3 v5 v6 : Option V), σ = [some (.ref a), some (.ref b), some (.ref D), v3, some (.ref L), v5, v6] ∧
  H' D = some (.dK (dG (ik ks) fun _ => .bl true)) ∧ H' L = some (.lst (tds.map V.int)) ∧ Ext H H' ∧ ks.Nodup ∧ (∀ k ∈ ks, InR n k) ∧ (∀ t ∈ tds, t ∈ ks) ∧ (∀ s ∈ ss, s ∈ ks) ∧ (∀ p ∈ ps, p.1 ∈ ks → p.1 ∈ tds ∨ p.2 ∈ ks ∨ ex p) ∧ m = 2 * (n.toNat - ks.length) + tds.length ∧ m ≤ 300
section
variable {P : Program} {w : World} {K : PySem.W.Frag} {mg : PySem.Str → Option Value} {base : Heap}
theorem sc_reached : FnScope ["pairs", "starts", "found", "place", "todo", "one", "two"] ["pairs", "starts"] (defScope s_reached) := ⟨rfl, rfl, rfl, by decide +kernel, rfl, by decide +kernel, by decide +kernel⟩
theorem c_reached (T : Txt K mg) : C8.Cal P w K mg base 2 "reached" (spReached K) [] := by
  obtain ⟨fd, F⟩ := T.f_reached
  refine calN F T.g_reached sc_reached (F.bindsN fun _ _ _ _ _ _ us hl => match us, hl with | [_, _], _ => rfl) len2 (fun cdv A outer s H vs Q E hr h => ?_)
  refine ⟨_, (pss_cons (ps_setDc (i := 2) (own := [("place", 3)]) (g := gName 3) (tt := tYes) rfl sc_reached.nd rfl rfl (sw_trueD rfl rfl rfl (by decide +kernel)) (pi_any (own_it T) hr (pv 1)) (blkOk_by (own := [("place", 3)]) (N := ["pairs", "starts", "found", "place", "todo", "one", "two"]) (sc := defScope s_reached) (by decide +kernel)) (fun _ _ _ _ _ => pg_name (i := 3) sc_reached.nd rfl (by first | exact Or.inl rfl | exact Or.inr rfl)) (fun _ _ _ _ _ => pts_nil) (fun _ _ _ _ _ => (pv 3)) (fun _ _ _ _ _ => pe_bl))
      (pss_cons (ps_set (i := 4) sc_reached.nd rfl (by first | exact Or.inl rfl | exact Or.inr rfl) (pe_callTy call_list_of (by rfl) T.b_list (by decide +kernel) (pa_cons (pv 1) pa_nil)))
      (pss_cons (ps_while PassesOwn.never (pt_truth (pv 4) (by intro _; rfl))
      (pss_cons (ps_set (i := 3) sc_reached.nd rfl (by first | exact Or.inl rfl | exact Or.inr rfl) (pe_bm0 PySem.F.plainAttrs_list PySem.F.slot_list_pop PySem.F.type_list_pop mt_pop (pv 4)))
      (pss_one (ps_for PassesOwn.never rfl (pi_any (own_it T) hr (pv 0)) (pg_tup (by rfl) (pgs_cons (pg_name (i := 5) sc_reached.nd rfl (by first | exact Or.inl rfl | exact Or.inr rfl)) (pgs_cons (pg_name (i := 6) sc_reached.nd rfl (by first | exact Or.inl rfl | exact Or.inr rfl)) pgs_nil)))
      (pss_one (ps_if (PW.pt (pw_and (pt_cmpR op_eq (pv 5) (pv 3) (nomark _)) (pw_and1 (pt_cmp (pc_dnotin (hu_of hr) (pv 6) (pv 2)))))) (pss_cons (ps_dput (hu_of hr) (pv 2) (pv 6) pe_bl rfl)
      (pss_one (ps_expr (pe_bm PySem.F.plainAttrs_list PySem.F.slot_list_append PySem.F.type_list_append mt_append (pv 4) (pa_cons (pv 6) pa_nil)))))
      pss_nil))))))
      (pss_one (ps_ret (pv 2)))))), ?_⟩
  -- slots: 0:pairs 1:starts 2:found 3:place 4:todo 5:one 6:two
  obtain ⟨x, y, rfl, a, ps, b, ss, n, rfl, rfl, hps, hss, hn, rps, rss, ls, lp, q⟩ := h
  obtain ⟨J, hw⟩ := ints_itb hss
  have lin : 2000 < sizeLine := by rw [sizeLine_eq]; omega
  refine ⟨_, rfl, b, _, J, rfl, hw, fun D hD => dc_any hw hD (fun i H' => ∃ ks : List Int, H' D = some (.dK (dG (ik ks) fun _ => .bl true)) ∧ Ext H H' ∧ ks.Nodup ∧ (∀ k ∈ ks, k ∈ ss) ∧ ks.length ≤ i ∧ ∀ s ∈ ss.take i, s ∈ ks)
    ⟨[], upd_same, Ext.upd hD, List.nodup_nil, (fun _ h => absurd h (by simp)), Nat.le_refl _, by simp⟩ (fun i H' e => e.elim fun _ e => e.2.1) (fun i x H' hi e => ?_) fun H1 e => ?_⟩
  · obtain ⟨ks, hk, x1, nd, sub, len, cov⟩ := e
    obtain ⟨k, hk', rfl⟩ := map_at hi
    have il := (List.getElem?_eq_some_iff.mp hk').1
    refine ⟨rfl, _, rfl, _, Sum.inl k, rfl, hk, by rw [dg_len, List.length_map]; omega, ?_⟩
    by_cases m : k ∈ ks
    · refine ⟨ks, ?_, x1.put hD, nd, sub, by omega, fun s hs => ?_⟩
      · rw [upd_same, dg_setc (mem_ik.mpr m)]
      · rw [List.take_add_one, hk', List.mem_append] at hs
        rcases hs with hs | hs
        · exact cov s hs
        · simp at hs
          exact hs ▸ m
    · refine ⟨ks ++ [k], ?_, x1.put hD, ?_, fun j hj => ?_, by rw [List.length_append, List.length_singleton]; omega, fun s hs => ?_⟩
      · rw [upd_same, dg_newc (fun z => m (mem_ik.mp z)), ik_snoc]
      · exact nodup_snoc nd m
      · rcases List.mem_append.mp hj with hj | hj
        · exact sub j hj
        · rw [List.mem_singleton.mp hj]
          exact List.mem_of_getElem? hk'
      · rw [List.take_add_one, hk', List.mem_append] at hs
        rcases hs with hs | hs
        · exact List.mem_append_left _ (cov s hs)
        · simp at hs
          exact List.mem_append_right _ (by simp [hs])
  · obtain ⟨ks, hk, x1, nd, sub, len, cov⟩ := e
    rw [List.length_map, List.take_length] at cov
    have hss1 : SqL K H1 b (ss.map V.int) ∨ SqT K H1 b (ss.map V.int) := hss.imp (fun z => z.ext x1) fun z => z.ext x1
    refine ⟨_, rfl, b, _, rfl, hss1, fun L hL => ?_⟩
    have nDL : L ≠ D := neD hk hL
    have hL0 : H L = none := x1.non hL
    refine ⟨ReI H a b D L ss ps n fun _ => False, ⟨2 * (n.toNat - ks.length) + ss.length, ks, ss, none, none, none, rfl, by rw [upd_ne nDL.symm]; exact hk, upd_same, x1.put hL0, nd, fun k hk => rss k (sub k hk), cov, cov, fun p _ h => .inl (sub _ h), rfl, by omega⟩, ?_⟩
    rintro m σ H2 ⟨ks, tds, v3, v5, v6, rfl, hD2, hL2, x2, nd2, in2, sub2, cov2, clo2, em, m3⟩
    have lk : ks.length ≤ n.toNat := by
      have := nodup_le ks (below n) nd2 fun k hk => mem_below.mpr (in2 k hk)
      rwa [below_len] at this
    refine ⟨_, rfl, !(tds.map V.int).isEmpty, .inl ⟨_, .of hL2, rfl⟩, ?_⟩
    rcases List.eq_nil_or_concat tds with rfl | ⟨tds', pl, rfl⟩
    · exact iteF ⟨_, rfl, q D ks _ H2 x2 hD2 cov2 fun p hp h => (clo2 p hp h).elim (fun z => by cases z) fun z => z.elim id False.elim⟩
    · rw [List.concat_eq_append] at *
      have em0 : ((tds' ++ [pl]).map V.int).isEmpty = false := by simp
      rw [em0]
      refine iteT ⟨fun σ' H' => ∃ m', m' < m ∧ ReI H a b D L ss ps n (fun _ => False) m' σ' H', fun σ' H' z => z, ?_⟩
      refine ⟨_, rfl, .inl ⟨rfl, _, .of hL2⟩, L, _, .int pl, rfl, rfl, hL2, by simp, ?_⟩
      have e2 : upd H2 L (.lst ((tds' ++ [pl]).map V.int).dropLast) L = some (.lst (tds'.map V.int)) := by simp [upd_same]
      have hD3 : upd H2 L (.lst ((tds' ++ [pl]).map V.int).dropLast) D = some (.dK (dG (ik ks) fun _ => .bl true)) := by rw [upd_ne nDL.symm]; exact hD2
      have x3 : Ext H (upd H2 L (.lst ((tds' ++ [pl]).map V.int).dropLast)) := x2.put hL0
      generalize upd H2 L (.lst ((tds' ++ [pl]).map V.int).dropLast) = H3 at e2 hD3 x3
      obtain ⟨xs, J', hw', dxs⟩ := hps.wk
      have plk : pl ∈ ks := sub2 pl (by simp)
      rw [List.length_append, List.length_singleton] at em
      refine ⟨_, rfl, a, _, J', rfl, wk_ext hw' x3, for_any hw' (fun i σ H' => σ[3]? = some (some (.int pl)) ∧ ∃ m', m' < m ∧ ReI H a b D L ss ps n (fun p => p.1 = pl ∧ p ∈ ps.drop i) m' σ H') ?_ (fun _ _ _ z => ?_) ?_ ?_⟩
      · refine ⟨rfl, 2 * (n.toNat - ks.length) + tds'.length, by omega, ks, tds', some (.int pl), v5, v6, rfl, hD3, e2, x3, nd2, in2, fun t ht => sub2 t (by simp [ht]), cov2, fun p hp h => ?_, rfl, by omega⟩
        rcases clo2 p hp h with z | z | z
        · rw [List.mem_append, List.mem_singleton] at z
          rcases z with z | z
          · exact .inl z
          · exact .inr (.inr ⟨z, by simpa using hp⟩)
        · exact .inr (.inl z)
        · exact z.elim
      · obtain ⟨_, m', _, ks, tds, _, _, _, _, _, _, z, _⟩ := z
        exact z
      · rintro i x σ H' hi ⟨s3, m', lm, ks, tds, v3, v5, v6, rfl, hD4, hL4, x4, nd4, in4, sub4, cov4, clo4, em4, m4⟩
        obtain rfl : v3 = some (.int pl) := Option.some.inj s3
        obtain ⟨p, t, hp, rfl, ht⟩ := ePs_get dxs hi
        have pin : p ∈ ps := List.mem_of_getElem? hp
        obtain ⟨r1, r2⟩ := rps p pin
        have dr : ps.drop i = p :: ps.drop (i + 1) := by
          obtain ⟨hlt, e⟩ := List.getElem?_eq_some_iff.mp hp
          rw [← e]
          exact List.drop_eq_getElem_cons hlt
        refine ⟨t, _, rfl, ht.ext x4, rfl, _, _, rfl, _, _, rfl, ?_⟩
        refine ⟨rfl, _, rfl, _, rfl, rfl, _, rfl, ?_⟩
        have skip : ∀ v5 v6, (p.1 = pl → p.2 ∈ ks) → ([some (.ref a), some (.ref b), some (.ref D), some (.int pl), some (.ref L), v5, v6] : L2.St)[3]? = some (some (.int pl)) ∧ ∃ m', m' < m ∧ ReI H a b D L ss ps n (fun p => p.1 = pl ∧ p ∈ ps.drop (i + 1)) m' [some (.ref a), some (.ref b), some (.ref D), some (.int pl), some (.ref L), v5, v6] H' := fun v5 v6 h => by
          refine ⟨rfl, m', lm, ks, tds, _, v5, v6, rfl, hD4, hL4, x4, nd4, in4, sub4, cov4, fun p' hp' h' => ?_, em4, m4⟩
          rcases clo4 p' hp' h' with z | z | ⟨z1, z2⟩
          · exact .inl z
          · exact .inr (.inl z)
          · rw [dr] at z2
            rcases List.mem_cons.mp z2 with z2 | z2
            · rw [z2] at z1 ⊢
              exact .inr (.inl (h z1))
            · exact .inr (.inr ⟨z1, z2⟩)
        by_cases e1 : p.1 = pl
        · rw [decide_eq_true (show V.int p.1 = V.int pl by rw [e1])]
          refine iteT ⟨_, rfl, _, rfl, D, _, rfl, DGet.k (k := Sum.inl p.2) hD4, _, rfl, ?_⟩
          rw [dg_val]
          by_cases e2' : p.2 ∈ ks
          · rw [if_pos (mem_ik.mpr e2')]
            exact iteF (skip _ _ fun _ => e2')
          · rw [if_neg fun z => e2' (mem_ik.mp z)]
            refine iteT ?_
            have lk' : (ks ++ [p.2]).length ≤ n.toNat := by
              have := nodup_le (ks ++ [p.2]) (below n) (nodup_snoc nd4 e2') fun k hk => mem_below.mpr ((List.mem_append.mp hk).elim (in4 k) fun z => by rw [List.mem_singleton.mp z]; exact r2)
              rwa [below_len] at this
            rw [List.length_append, List.length_singleton] at lk'
            refine ⟨_, rfl, _, rfl, D, _, rfl, DPut.k (k := Sum.inl p.2) hD4 (by rw [dg_len, List.length_map]; omega), ?_⟩
            have hL5 : upd H' D (.dK (putK (dG (ik ks) fun _ => .bl true) (Sum.inl p.2) (.bl true))) L = some (.lst (tds.map V.int)) := by rw [upd_ne nDL]; exact hL4
            refine ⟨_, rfl, .inl ⟨rfl, _, .of hL5⟩, _, rfl, L, _, _, rfl, rfl, hL5, by rw [List.length_map]; omega, ?_⟩
            refine ⟨rfl, m' - 1, by omega, ks ++ [p.2], tds ++ [p.2], _, _, _, rfl, ?_, ?_, (x4.put hD).put hL0, nodup_snoc nd4 e2', fun k hk => (List.mem_append.mp hk).elim (in4 k) fun z => by rw [List.mem_singleton.mp z]; exact r2, ?_, fun s hs => List.mem_append_left _ (cov4 s hs), ?_, ?_, by omega⟩
            · rw [upd_ne nDL.symm, upd_same, dg_newc fun z => e2' (mem_ik.mp z), ik_snoc]
            · rw [upd_same, List.map_append]
              rfl
            · intro t ht
              rcases List.mem_append.mp ht with z | z
              · exact List.mem_append_left _ (sub4 t z)
              · exact List.mem_append_right _ z
            · intro p' hp' h'
              rcases List.mem_append.mp h' with h' | h'
              · rcases clo4 p' hp' h' with z | z | ⟨z1, z2⟩
                · exact .inl (List.mem_append_left _ z)
                · exact .inr (.inl (List.mem_append_left _ z))
                · rw [dr] at z2
                  rcases List.mem_cons.mp z2 with z2 | z2
                  · rw [z2]
                    exact .inr (.inl (by simp))
                  · exact .inr (.inr ⟨z1, z2⟩)
              · exact .inl (List.mem_append_right _ h')
            · rw [List.length_append, List.length_append, List.length_singleton]
              omega
        · rw [decide_eq_false (show ¬ V.int p.1 = V.int pl from fun z => e1 (by cases z; rfl))]
          exact iteF (iteF (skip _ _ fun z => absurd z e1))
      · rintro σ H' ⟨_, m', lm, ks, tds, v3, v5, v6, e, hD4, hL4, x4, nd4, in4, sub4, cov4, clo4, em4, m4⟩
        refine ⟨m', lm, ks, tds, v3, v5, v6, e, hD4, hL4, x4, nd4, in4, sub4, cov4, fun p hp h => ?_, em4, m4⟩
        rcases clo4 p hp h with z | z | ⟨_, z⟩
        · exact .inl z
        · exact .inr (.inl z)
        · have := dxs.len
          rw [List.length_map] at this
          rw [this, List.drop_length] at z
          cases z
end
end Sv
namespace Sv
open PySem PySem.Spec PyProof.Rows L2
/-! ### webs -/
def gatesW (ps : Gt) (o : Int) (ex : List Int) : Gt := ps ++ ((-1, o) :: ex.map fun x => (x, -1))
theorem gatesW_len (ps : Gt) (o : Int) (ex : List Int) : (gatesW ps o ex).length = ps.length + 1 + ex.length := by
  unfold gatesW
  rw [List.length_append, List.length_cons, List.length_map]
  omega
def IsWeb (K : PySem.W.Frag) (H : Hp) (x : V) (n : Int) (ps : Gt) (o : Int) (ex : List Int) : Prop := ∃ p dx te tx, x = .ref p ∧ H p = some (.ins (cWeb K) dx [("places", .int n), ("edges", .ref te), ("entry", .int o), ("exits", .ref tx)]) ∧
  Dp K H (.ref te) (.tuple (ps.map eP)) ∧ SqT K H tx (ex.map V.int)
theorem IsWeb.im {K : PySem.W.Frag} {H H' : Hp} {x : V} {n o : Int} {ps : Gt} {ex : List Int} (h : IsWeb K H x n ps o ex) (e : Im H H') : IsWeb K H' x n ps o ex := by
  obtain ⟨p, dx, te, tx, rfl, a, b, c⟩ := h
  exact ⟨p, dx, te, tx, rfl, e.ins _ _ _ _ a, Dp.im e _ _ (by rw [nl]; exact ePs_nl ps) b, c.im e⟩
theorem IsWeb.ext {K : PySem.W.Frag} {H H' : Hp} {x : V} {n o : Int} {ps : Gt} {ex : List Int} (h : IsWeb K H x n ps o ex) (e : Ext H H') : IsWeb K H' x n ps o ex := h.im (.of e)
def WebEq (K : PySem.W.Frag) (a b : Addr) (H : Hp) : Prop := ∃ n ps o ex, IsWeb K H (.ref a) n ps o ex ∧ IsWeb K H (.ref b) n ps o ex
theorem shp_eP (p : Int × Int) : shp 1 (eP p) := .tup fun d hd => by
  rcases List.mem_cons.mp hd with rfl | hd
  · exact .int _ _
  · rw [List.mem_singleton.mp hd]
    exact .int _ _
theorem shp_ePs (ps : Gt) : shp 2 (.tuple (ps.map eP)) := .tup fun d hd => by
  obtain ⟨p, _, rfl⟩ := List.mem_map.mp hd
  exact shp_eP p
theorem shp_is (ns : List Int) (k : Nat) : shp (k + 1) (.tuple (ns.map PyData.int)) := .tup fun d hd => by
  obtain ⟨p, _, rfl⟩ := List.mem_map.mp hd
  exact .int _ _
theorem lenEq {R : Addr → Addr → Hp → Prop} {a b : PySem.Str} : ∀ vs H Q E, spEq R vs H Q E → vs.length = [a, b].length := by
  rintro _ _ _ _ ⟨_, _, rfl, _⟩
  rfl
def spGates (K : PySem.W.Frag) : Sp := sp1 fun x H Q => ∃ n ps o ex, IsWeb K H x n ps o ex ∧ Q (.int ((gatesW ps o ex).length : Nat)) H
def spGoodEdge (K : PySem.W.Frag) : Sp := sp2 fun x y H Q => ∃ t a b n, x = .ref t ∧ y = .int n ∧ SqT K H t [.int a, .int b] ∧ InR n a ∧ InR n b ∧ Q (.bl true) H
def spCheckGate (K : PySem.W.Frag) : Sp := sp2 fun x y H Q => ∃ n ps o ex g, IsWeb K H x n ps o ex ∧ y = .int g ∧ InR ((gatesW ps o ex).length : Nat) g ∧ Q .non H
def spEnds (K : PySem.W.Frag) : Sp := sp2 fun x y H Q => ∃ n ps o ex g p, IsWeb K H x n ps o ex ∧ y = .int (g : Nat) ∧ (gatesW ps o ex)[g]? = some p ∧ ps.length < 1000 ∧ ex.length < 1000 ∧ ∀ t H', Ext H H' → SqT K H' t [.int p.1, .int p.2] → Q (.ref t) H'
section
variable {P : Program} {w : World} {K : PySem.W.Frag} {mg : PySem.Str → Option Value} {base : Heap}
theorem sc_Web_gates : FnScope ["self"] ["self"] (defScope s_Web_gates) := ⟨rfl, rfl, rfl, by decide +kernel, rfl, by decide +kernel, by decide +kernel⟩
theorem fn_Web_gates (T : Txt K mg) : ∃ fd, FnOk P w K mg base CX0 1 (getterAd K) fd ["self"] (spGates K) ∧ Binds K fd ["self"] [] := by
  obtain ⟨fd, F⟩ := T.f_Web_gates
  refine ⟨fd, fnN F sc_Web_gates len1 (fun cdv A outer s H vs Q E hr h => ?_), F.bindsN fun _ _ _ _ _ _ us hl => match us, hl with | [_], _ => rfl⟩
  obtain ⟨x, rfl, n, ps, o, ex, ⟨p, dx, te, tx, rfl, hp, he, hx⟩, q⟩ := h
  obtain ⟨te', xs, e1, se, al⟩ := he.tupI
  cases e1
  refine ⟨_, pss_one (ps_ret (pe_op op_add (pe_op op_add (pe_callB call_len (by rfl) T.b_len (by decide +kernel) (pa_cons (pe_fld (pv 0) rfl) pa_nil)) pe_int) (pe_callB call_len (by rfl) T.b_len (by decide +kernel) (pa_cons (pe_fld (pv 0) rfl) pa_nil)))), ?_⟩
  refine ⟨_, rfl, p, _, dx, _, _, rfl, hp, T.c_Web, T.n_Web_edges, rfl, _, _, rfl, .inr ⟨_, se, rfl⟩, _, _, rfl, rfl, _, rfl, p, _, dx, _, _, rfl, hp, T.c_Web, T.n_Web_exits, rfl, _, _, rfl, .inr ⟨_, hx, rfl⟩, _, _, rfl, rfl, ?_⟩
  have e : ((xs.length : Nat) : Int) + 1 + (((ex.map V.int).length : Nat) : Int) = ((gatesW ps o ex).length : Nat) := by
    rw [gatesW_len, al.len, List.length_map, List.length_map]
    omega
  show Q (.int (((xs.length : Nat) : Int) + 1 + (((ex.map V.int).length : Nat) : Int))) H
  rw [e]
  exact q
end
theorem pe_gates {X : Cx} {k : Nat} {e : Expr} {ta : TE} {pos : Pos} (T : Txt X.K X.mg) (hr : Room (k + 2) X.A) (he : PE X e ta) (hab : attributeBase e "gates" X.env (eval e X.env) = eval e X.env := by rfl) : PE X (.Attribute e "gates" pos) (tProp (cWeb X.K) (spGates X.K) [] E0 ta) := by
  obtain ⟨fd, F, b⟩ := fn_Web_gates (P := X.prog) (w := X.w) (base := X.base) T
  exact pe_prop he T.c_Web T.prop F (hr.mono (by omega)) b .nil pass0 hab
theorem read_gates {K : PySem.W.Frag} {H : Hp} {x : V} {n o : Int} {ps : Gt} {ex : List Int} {Q : VK} (h : IsWeb K H x n ps o ex) (q : Q (.int ((gatesW ps o ex).length : Nat)) H) :
    ∃ a dx fs, x = .ref a ∧ H a = some (.ins (cWeb K) dx fs) ∧ spGates K [.ref a] H Q E0 := by
  obtain ⟨p, dx, te, tx, rfl, hp, he, hx⟩ := id h
  exact ⟨p, dx, _, rfl, hp, _, rfl, n, ps, o, ex, h, q⟩
section
variable {P : Program} {w : World} {K : PySem.W.Frag} {mg : PySem.Str → Option Value} {base : Heap}
theorem sc_good_edge : FnScope ["edge", "places"] ["edge", "places"] (defScope s_good_edge) := ⟨rfl, rfl, rfl, by decide +kernel, rfl, by decide +kernel, by decide +kernel⟩
theorem c_good_edge (T : Txt K mg) : C8.Cal P w K mg base 1 "good_edge" (spGoodEdge K) [] := by
  obtain ⟨fd, F⟩ := T.f_good_edge
  refine calN F T.g_good_edge sc_good_edge (F.bindsN fun _ _ _ _ _ _ us hl => match us, hl with | [_, _], _ => rfl) len2 (fun cdv A outer s H vs Q E hr h => ?_)
  refine ⟨_, (pss_one (ps_ret (pe_and (pe_cmpR op_eq (pe_callB call_len (by rfl) T.b_len (by decide +kernel) (pa_cons (pv 0) pa_nil)) pe_int (nomark _)) (pe_and (pe_chain op_le op_lt pe_int (pe_ix ix_tup (pv 0) pe_int (fun _ _ => rfl)) (pv 1)) (pe_one (pe_chain op_le op_lt pe_int (pe_ix ix_tup (pv 0) pe_int (fun _ _ => rfl)) (pv 1))))))), ?_⟩
  -- slots: 0:edge 1:places
  obtain ⟨x, y, rfl, t, a, b, n, rfl, rfl, ht, ⟨a0, an⟩, ⟨b0, bn⟩, q⟩ := h
  refine ⟨_, rfl, _, _, rfl, .inr ⟨_, ht, rfl⟩, rfl, ?_⟩
  refine ⟨true, congrArg V.bl (decide_eq_true rfl), iteT ?_⟩
  refine ⟨_, rfl, t, _, _, _, rfl, rfl, ht, rfl, _, _, rfl, rfl, true, congrArg V.bl (decide_eq_true a0), iteT ⟨_, rfl, _, _, rfl, rfl, true, congrArg V.bl (decide_eq_true an), iteT ?_⟩⟩
  refine ⟨_, rfl, t, _, _, _, rfl, rfl, ht, rfl, _, _, rfl, rfl, true, congrArg V.bl (decide_eq_true b0), iteT ⟨_, rfl, _, _, rfl, rfl, ?_⟩⟩
  show Q (.bl (decide (b < n))) H
  rw [decide_eq_true bn]
  exact q
theorem sc_check_gate : FnScope ["web", "number"] ["web", "number"] (defScope s_check_gate) := ⟨rfl, rfl, rfl, by decide +kernel, rfl, by decide +kernel, by decide +kernel⟩
theorem c_check_gate (T : Txt K mg) : C8.Cal P w K mg base 3 "check_gate" (spCheckGate K) [] := by
  obtain ⟨fd, F⟩ := T.f_check_gate
  refine calN F T.g_check_gate sc_check_gate (F.bindsN fun _ _ _ _ _ _ us hl => match us, hl with | [_, _], _ => rfl) len2 (fun cdv A outer s H vs Q E hr h => ?_)
  refine ⟨_, (pss_one (ps_if (pt_not (pt_chain op_le op_lt pe_int (pv 1) (pe_gates T hr (pv 0)))) (pss_one ps_never)
      pss_nil)), ?_⟩
  -- slots: 0:web 1:number
  obtain ⟨x, y, rfl, n, ps, o, ex, g, hw, rfl, ⟨g0, g1⟩, q⟩ := h
  refine ⟨_, rfl, _, _, rfl, rfl, true, congrArg V.bl (decide_eq_true g0), iteT ⟨_, rfl, read_gates hw ⟨_, _, rfl, rfl, true, congrArg V.bl (decide_eq_true g1), iteF q⟩⟩⟩
theorem sc_Web_ends : FnScope ["self", "gate", "many"] ["self", "gate"] (defScope s_Web_ends) := ⟨rfl, rfl, rfl, by decide +kernel, rfl, by decide +kernel, by decide +kernel⟩
theorem mt_Web_ends (T : Txt K mg) : C8.Met P w K mg base 4 (He.ga K "Web") "ends" (spEnds K) [] := by
  obtain ⟨fd, F⟩ := T.f_Web_ends
  refine metN T.c_Web T.m_Web_ends F sc_Web_ends (F.bindsN fun _ _ _ _ _ _ us hl => match us, hl with | [_, _], _ => rfl) len2 (fun cdv A outer s H vs Q E hr h => ?_)
  refine ⟨_, (pss_cons (ps_set (i := 2) sc_Web_ends.nd rfl (by first | exact Or.inl rfl | exact Or.inr rfl) (pe_callB call_len (by rfl) T.b_len (by decide +kernel) (pa_cons (pe_fld (pv 0) rfl) pa_nil)))
      (pss_cons (ps_expr (C8.pe_c (c_check_gate T) hr (by decide) rfl (pa_cons (pv 0) (pa_cons (pv 1) pa_nil))))
      (pss_cons (ps_if (pt_cmpR op_lt (pv 1) (pv 2) (nomark _)) (pss_one (ps_ret (pe_ix ix_tup (pe_fld (pv 0) rfl) (pv 1) (fun _ _ => rfl))))
      pss_nil)
      (pss_cons (ps_if (pt_cmpR op_eq (pv 1) (pv 2) (nomark _)) (pss_one (ps_ret (pe_tup (pa_cons (C8.pe_gc rfl T.i_OUTSIDE_webs) (pa_cons (pe_fld (pv 0) rfl) pa_nil)))))
      pss_nil)
      (pss_one (ps_ret (pe_tup (pa_cons (pe_ix ix_tup (pe_fld (pv 0) rfl) (pe_op op_sub (pe_op op_sub (pv 1) (pv 2)) pe_int) (fun _ _ => rfl)) (pa_cons (C8.pe_gc rfl T.i_OUTSIDE_webs) pa_nil))))))))), ?_⟩
  -- slots: 0:self 1:gate 2:many
  obtain ⟨x, y, rfl, n, ps, o, ex, g, p, hw, rfl, hg, lp, le, q⟩ := h
  obtain ⟨pp, dx, te, tx, rfl, hp, he, hx⟩ := id hw
  obtain ⟨te', xs, e1, se, al⟩ := he.tupI
  cases e1
  have gl : g < (gatesW ps o ex).length := (List.getElem?_eq_some_iff.mp hg).1
  have lx : xs.length = ps.length := by rw [al.len, List.length_map]
  have lg := gatesW_len ps o ex
  refine ⟨_, rfl, pp, _, dx, _, _, rfl, hp, T.c_Web, T.n_Web_edges, rfl, _, _, rfl, .inr ⟨_, se, rfl⟩, ?_⟩
  refine ⟨_, rfl, _, rfl, _, _, rfl, n, ps, o, ex, (g : Int), hw, rfl, ⟨by omega, by omega⟩, ?_⟩
  refine ⟨_, rfl, _, rfl, _, _, rfl, rfl, _, rfl, ite2 (fun c => ?_) fun c => ?_⟩
  · have c' : g < ps.length := by
      have := of_decide_eq_true c
      omega
    unfold gatesW at hg
    rw [List.getElem?_append_left c'] at hg
    obtain ⟨v, hv, dv⟩ := al.at (d := eP p) (i := g) (by rw [List.getElem?_map, hg]; rfl)
    obtain ⟨t, rfl, ht⟩ := Dp.eP dv
    exact ⟨_, rfl, pp, _, dx, _, _, rfl, hp, T.c_Web, T.n_Web_edges, rfl, _, rfl, te, _, _, _, rfl, rfl, se, atI_nat hv, q t H Ext.rfl' ht⟩
  · have c' : ps.length ≤ g := by
      have : ¬ (g : Int) < ((xs.length : Nat) : Int) := fun z => c (decide_eq_true z)
      omega
    unfold gatesW at hg
    rw [List.getElem?_append_right c'] at hg
    refine ⟨_, rfl, _, rfl, rfl, _, rfl, ite2 (fun c2 => ?_) fun c2 => ?_⟩
    · have c3 : g = ps.length := by
        have := of_decide_eq_true c2
        injection this with this
        omega
      rw [c3, Nat.sub_self, List.getElem?_cons_zero] at hg
      cases hg
      refine ⟨_, rfl, pp, _, dx, _, _, rfl, hp, T.c_Web, T.n_Web_entry, rfl, by show 2 ≤ sizeLine; decide, fun t ht => q t _ (Ext.upd ht) (.of upd_same)⟩
    · have c3 : g ≠ ps.length := fun z => c2 (decide_eq_true (by show V.int (g : Int) = V.int ((xs.length : Nat) : Int); rw [z, lx]))
      obtain ⟨j, rfl⟩ : ∃ j, g = ps.length + 1 + j := ⟨g - ps.length - 1, by omega⟩
      rw [show ps.length + 1 + j - ps.length = j + 1 by omega, List.getElem?_cons_succ, List.getElem?_map] at hg
      cases hj : ex[j]? with
      | none => rw [hj] at hg; cases hg
      | some k =>
        rw [hj] at hg
        cases hg
        refine ⟨_, rfl, pp, _, dx, _, _, rfl, hp, T.c_Web, T.n_Web_exits, rfl, _, rfl, _, rfl, _, _, rfl, rfl, _, _, rfl, rfl, ?_⟩
        have ei : V.int (((ps.length + 1 + j : Nat) : Int) - ((xs.length : Nat) : Int) - 1) = V.int (j : Int) := by
          congr 1
          omega
        refine ⟨tx, _, (j : Int), .int k, rfl, ei, hx, atI_nat (by rw [List.getElem?_map, hj]; rfl), by show 2 ≤ sizeLine; decide, fun t ht => q t _ (Ext.upd ht) (.of upd_same)⟩
theorem sc_Web_eq : FnScope ["self", "other", "mine"] ["self", "other"] (defScope s_Web_eq) := ⟨rfl, rfl, rfl, by decide +kernel, rfl, by decide +kernel, by decide +kernel⟩
theorem mt_Web_eq (T : Txt K mg) : C8.Met P w K mg base 2 (He.ga K "Web") "__eq__" (spEq (WebEq K)) [] := by
  obtain ⟨fd, F⟩ := T.f_Web_eq
  refine metN T.c_Web T.m_Web_eq F sc_Web_eq (F.bindsN fun _ _ _ _ _ _ us hl => match us, hl with | [_, _], _ => rfl) lenEq (fun cdv A outer s H vs Q E hr h => ?_)
  refine ⟨_, (pss_cons (ps_if (pt_not (pt_val (pe_callB (C8.call_isC T.insC) (by rfl) T.b_isinstance (by decide +kernel) (pa_cons (pv 1) (pa_cons (C8.pe_gc rfl ⟨_, T.g_Web, rref _⟩) pa_nil))))) (pss_one (ps_ret pe_bl))
      pss_nil)
      (pss_cons (ps_set (i := 2) sc_Web_eq.nd rfl (by first | exact Or.inl rfl | exact Or.inr rfl) (pe_tup (pa_cons (pe_fld (pv 0) rfl) (pa_cons (pe_fld (pv 0) rfl) (pa_cons (pe_fld (pv 0) rfl) (pa_cons (pe_fld (pv 0) rfl) pa_nil))))))
      (pss_one (ps_ret (pe_cmpR (op_eqD hr.units) (pv 2) (pe_tup (pa_cons (pe_fld (pv 1) rfl) (pa_cons (pe_fld (pv 1) rfl) (pa_cons (pe_fld (pv 1) rfl) (pa_cons (pe_fld (pv 1) rfl) pa_nil))))) (nomark _)))))), ?_⟩
  -- slots: 0:self 1:other 2:mine
  obtain ⟨a, b, rfl, ⟨n, ps, o, ex, ⟨p, dx, te, tx, e, hp, he, hx⟩, ⟨p', dx', te', tx', e', hp', he', hx'⟩⟩, q⟩ := h
  cases e
  cases e'
  refine ⟨_, rfl, b, dx', _, rfl, hp', true, rfl, iteF ?_⟩
  refine ⟨_, rfl, a, _, dx, _, _, rfl, hp, T.c_Web, T.n_Web_places, rfl, _, rfl, a, _, dx, _, _, rfl, hp, T.c_Web, T.n_Web_edges, rfl, _, rfl, a, _, dx, _, _, rfl, hp, T.c_Web, T.n_Web_entry, rfl, _, rfl, a, _, dx, _, _, rfl, hp, T.c_Web, T.n_Web_exits, rfl, by show 4 ≤ sizeLine; decide, fun m hm => ?_⟩
  have x1 : Ext H (upd H m (.tup [.int n, .ref te, .int o, .ref tx])) := Ext.upd hm
  have hp1 := x1 _ _ hp'
  have hm1 : upd H m (.tup [.int n, .ref te, .int o, .ref tx]) m = some (.tup [.int n, .ref te, .int o, .ref tx]) := upd_same
  refine ⟨_, rfl, _, rfl, b, _, dx', _, _, rfl, hp1, T.c_Web, T.n_Web_places, rfl, _, rfl, b, _, dx', _, _, rfl, hp1, T.c_Web, T.n_Web_edges, rfl, _, rfl, b, _, dx', _, _, rfl, hp1, T.c_Web, T.n_Web_entry, rfl, _, rfl, b, _, dx', _, _, rfl, hp1, T.c_Web, T.n_Web_exits, rfl, by show 4 ≤ sizeLine; decide, fun m' hm' => ?_⟩
  have x2 := Ext.upd (o := .tup [.int n, .ref te', .int o, .ref tx']) hm'
  have sh : SeqAt.shaped (.tuple [.int n, .tuple (ps.map eP), .int o, .tuple (ex.map PyData.int)]) = true := by
    refine shp.ed (k := 3) (.tup fun d hd => ?_) (by omega)
    simp only [List.mem_cons, List.not_mem_nil, or_false] at hd
    rcases hd with rfl | rfl | rfl | rfl
    · exact .int _ _
    · exact shp_ePs ps
    · exact .int _ _
    · exact shp_is ex 1
  refine ⟨.tuple [.int n, .tuple (ps.map eP), .int o, .tuple (ex.map PyData.int)], .tuple [.int n, .tuple (ps.map eP), .int o, .tuple (ex.map PyData.int)], .tup (.of (x2 _ _ hm1)) (.cons (.int _) (.cons ((he.ext x1).ext x2) (.cons (.int _) (.cons (.tup ((hx.ext x1).ext x2) (DpAll.ints ex)) .nil)))),
    .tup (.of upd_same) (.cons (.int _) (.cons ((he'.ext x1).ext x2) (.cons (.int _) (.cons (.tup ((hx'.ext x1).ext x2) (DpAll.ints ex)) .nil)))), sh, sh, ?_⟩
  rw [SeqAt.eqv_refl _ (SeqAt.canLay_of_shaped sh)]
  exact q _ (x1.trans x2)
end
theorem rc_web {X : Cx} (T : Txt X.K X.mg) : RcG X 2 (DIns (cWeb X.K) (WebEq X.K)) := by
  obtain ⟨f, fd, ps, ds, c, m, F, b, d⟩ := (mt_Web_eq (P := X.prog) (w := X.w) (base := X.base) T).ex
  cases d
  exact rcG_ins (E := E0) F m.at_ m.fn b pass0
theorem web_eq {K : PySem.W.Frag} {H : Hp} {x y : V} {n o : Int} {ps : Gt} {ex : List Int} (h : IsWeb K H x n ps o ex) (h' : IsWeb K H y n ps o ex) : DIns (cWeb K) (WebEq K) x y H := by
  obtain ⟨p, dx, te, tx, rfl, hp, _⟩ := id h
  obtain ⟨p', dx', te', tx', rfl, hp', _⟩ := id h'
  exact ⟨p, p', dx, dx', _, _, rfl, rfl, hp, hp', n, ps, o, ex, h, h'⟩
end Sv
namespace Sv
open PySem PySem.Spec PyProof.Rows L2
/-! ### the making of webs -/
def ReachO (n : Int) (ps : Gt) (o : Int) : Prop := ∀ k, InR n k → ∀ ks : List Int, o ∈ ks → (∀ p ∈ ps, p.1 ∈ ks → p.2 ∈ ks) → k ∈ ks
def ReachE (n : Int) (ps : Gt) (gs : List Int) : Prop := ∀ k, InR n k → ∀ ks : List Int, (∀ g ∈ gs, g ∈ ks) → (∀ p ∈ ps, p.2 ∈ ks → p.1 ∈ ks) → k ∈ ks
structure WebPre (n : Int) (ps : Gt) (o : Int) (gs : List Int) : Prop where
  n1 : 1 ≤ n
  n2 : n ≤ 24
  lp : ps.length ≤ 80
  nd : ps.Nodup
  ip : ∀ p ∈ ps, InR n p.1 ∧ InR n p.2
  io : InR n o
  ne : gs ≠ []
  ig : ∀ g ∈ gs, InR n g
  lg : gs.length ≤ 60
  ro : ReachO n ps o
  re : ReachE n ps gs
def exits (n : Int) (gs : List Int) : List Int := (below n).filter fun k => decide (k ∈ gs)
theorem mem_exits {n : Int} {gs : List Int} (h : ∀ g ∈ gs, InR n g) {k : Int} : k ∈ exits n gs ↔ k ∈ gs := by
  unfold exits
  rw [List.mem_filter, mem_below]
  simp only [decide_eq_true_eq]
  exact ⟨fun z => z.2, fun z => ⟨h k z, z⟩⟩
def spIdle (K : PySem.W.Frag) : Sp := sp1 fun x H Q => ∃ n ps o ex, IsWeb K H x n ps o ex ∧ n ≤ 24 ∧ ps.length ≤ 80 ∧ ex.length ≤ 60 ∧ (∀ p ∈ ps, InR n p.1 ∧ InR n p.2) ∧ InR n o ∧ (∀ g ∈ ex, InR n g) ∧ ReachO n ps o ∧ ReachE n ps ex ∧ ∀ H', Ext H H' → Q .non H'
def spWebI (K : PySem.W.Frag) : Sp := sp5 fun x y z u v H Q => ∃ p dx a n ps o b gs, x = .ref p ∧ y = .int n ∧ z = .ref a ∧ u = .int o ∧ v = .ref b ∧ H p = some (.ins (cWeb K) dx []) ∧ Dp K H (.ref a) (.list (List.map eP ps)) ∧ SqL K H b (List.map V.int gs) ∧ WebPre n ps o gs ∧
  ∀ H', But p H H' → IsWeb K H' (.ref p) n ps o (exits n gs) → Q .non H'
/-- turned pairs -/
def Fs (ps : Gt) (i : Nat) : Option PyData := ps[i]?.map fun p => eP (p.2, p.1)
theorem fs_all {α : Type} (g : α → PyData) (ps : List α) : (List.range ps.length).filterMap (fun i => ps[i]?.map g) = ps.map g := by
  induction ps with
  | nil => rfl
  | cons n ns ih =>
    rw [List.length_cons, List.range_succ_eq_map, List.filterMap_cons, List.filterMap_map]
    have e : (List.range ns.length).filterMap ((fun i => (n :: ns)[i]?.map g) ∘ Nat.succ) = ns.map g := by
      rw [← ih]
      rfl
    rw [e]
    rfl
section
variable {P : Program} {w : World} {K : PySem.W.Frag} {mg : PySem.Str → Option Value} {base : Heap}
theorem sc_Web_check_idle : FnScope ["self", "behind", "ahead", "one", "two", "place"] ["self"] (defScope s_Web_check_idle) := ⟨rfl, rfl, rfl, by decide +kernel, rfl, by decide +kernel, by decide +kernel⟩
theorem mt_Web_check_idle (T : Txt K mg) : C8.Met P w K mg base 3 (He.ga K "Web") "check_idle" (spIdle K) [] := by
  obtain ⟨fd, F⟩ := T.f_Web_check_idle
  refine metN T.c_Web T.m_Web_check_idle F sc_Web_check_idle (F.bindsN fun _ _ _ _ _ _ us hl => match us, hl with | [_], _ => rfl) len1 (fun cdv A outer s H vs Q E hr h => ?_)
  refine ⟨_, (pss_cons (ps_set (i := 1) sc_Web_check_idle.nd rfl (by first | exact Or.inl rfl | exact Or.inr rfl) (C8.pe_c (c_reached T) hr (by decide) rfl (pa_cons (pe_fld (pv 0) rfl) (pa_cons (pe_lst (pa_cons (pe_fld (pv 0) rfl) pa_nil)) pa_nil))))
      (pss_cons (ps_set (i := 2) sc_Web_check_idle.nd rfl (by first | exact Or.inl rfl | exact Or.inr rfl) (C8.pe_c (c_reached T) hr (by decide) rfl (pa_cons (pe_lc (own := [("one", 3), ("two", 4)]) (g := _) (tt := tYes) rfl sc_Web_check_idle.nd (pi_tup (pe_fld (pv 0) rfl)) (blkOk_by (own := [("one", 3), ("two", 4)]) (N := ["self", "behind", "ahead", "one", "two", "place"]) (sc := defScope s_Web_check_idle) (by decide +kernel)) (fun _ _ _ _ _ => pg_tupK K rfl (n := 2) (by rfl) (pgs_cons (pg_name (i := 3) sc_Web_check_idle.nd rfl (by first | exact Or.inl rfl | exact Or.inr rfl)) (pgs_cons (pg_name (i := 4) sc_Web_check_idle.nd rfl (by first | exact Or.inl rfl | exact Or.inr rfl)) pgs_nil))) (fun _ _ _ _ _ => pts_nil) (fun _ _ _ _ _ => (pe_tup (pa_cons (pv 4) (pa_cons (pv 3) pa_nil))))) (pa_cons (pe_fld (pv 0) rfl) pa_nil))))
      (pss_one (ps_for PassesOwn.never rfl (pi_range1 (by rfl) T.b_range (pa_cons (pe_fld (pv 0) rfl) pa_nil)) (pg_name (i := 5) sc_Web_check_idle.nd rfl (by first | exact Or.inl rfl | exact Or.inr rfl))
      (pss_one (ps_if (PW.pt (pw_or (pt_cmp (pc_dnotin (hu_of hr) (pv 5) (pv 1))) (pw_or1 (pt_cmp (pc_dnotin (hu_of hr) (pv 5) (pv 2)))))) (pss_one ps_never)
      pss_nil)))))), ?_⟩
  -- slots: 0:self 1:behind 2:ahead 3:one 4:two 5:place
  obtain ⟨x, rfl, n, ps, o, ex, hw, hn, lp, le, ip, io, ie, ro, re, q⟩ := h
  obtain ⟨p, dx, te, tx, rfl, hp, he, hx⟩ := id hw
  obtain ⟨te', xs, e1, se, al⟩ := he.tupI
  cases e1
  have lxs : xs.length = ps.length := by rw [al.len, List.length_map]
  have lin : 2000 < sizeLine := by rw [sizeLine_eq]; omega
  have n0 : 0 < n := Int.lt_of_le_of_lt io.1 io.2
  refine ⟨_, rfl, p, _, dx, _, _, rfl, hp, T.c_Web, T.n_Web_edges, rfl, _, rfl, p, _, dx, _, _, rfl, hp, T.c_Web, T.n_Web_entry, rfl, by show 1 ≤ sizeLine; decide, fun l hl => ?_⟩
  have x1 : Ext H (upd H l (.lst [.int o])) := Ext.upd hl
  refine ⟨_, _, rfl, te, ps, l, [o], n, rfl, rfl, ⟨xs, .inr (se.ext x1), al.ext x1⟩, .inl (.of upd_same), by omega, ip, fun s hs => by rw [List.mem_singleton.mp hs]; exact io, by show 1 < 100; decide, by omega, fun d1 ks1 f1 H1 y1 hd1 s1 c1 => ?_⟩
  have x2 := x1.trans y1
  refine ⟨_, rfl, p, _, dx, _, _, rfl, x2 _ _ hp, T.c_Web, T.n_Web_edges, rfl, te, rfl, ⟨_, se.ext x2⟩, fun D hD => lcD_tup (Fs ps) hD (se.ext x2) (by omega) (fun i v H' Nx hi y2 tn => ?_) fun H' md => ?_⟩
  · obtain ⟨pp, t, hpp, rfl, ht⟩ := ePs_get (al.ext x2) hi
    have y3 : Ext H1 H' := y2.trans off_le
    refine ⟨t, _, rfl, ht.ext y3, rfl, _, _, rfl, _, _, rfl, rfl, ?_⟩
    refine ⟨rfl, _, rfl, _, rfl, by show 2 ≤ sizeLine; decide, fun m hm => tn.keepN (d := eP (pp.2, pp.1)) (by simp [Fs, hpp]) hm (.tup (.of upd_same) (.cons (.int _) (.cons (.int _) .nil)))⟩
  · have eF : (List.range xs.length).filterMap (Fs ps) = ps.map fun p => eP (p.2, p.1) := by
      rw [lxs]
      exact fs_all _ ps
    rw [eF] at md
    have y2 := md.ext1
    have x3 := x2.trans y2
    obtain ⟨acc, _, hD', al'⟩ := id md
    refine ⟨_, rfl, p, _, dx, _, _, rfl, x3 _ _ hp, T.c_Web, T.n_Web_exits, rfl, ?_⟩
    refine ⟨_, _, rfl, D, ps.map (fun p => (p.2, p.1)), tx, ex, n, rfl, rfl, ⟨acc, .inl (.of hD'), ?_⟩, .inr (hx.ext x3), by omega, ?_, ie, by omega, by rw [List.length_map]; omega, fun d2 ks2 f2 H2 y3 hd2 s2 c2 => ?_⟩
    · rw [List.map_map]
      exact al'.ext off_le
    · intro q hq
      obtain ⟨q', hq', rfl⟩ := List.mem_map.mp hq
      exact ⟨(ip q' hq').2, (ip q' hq').1⟩
    have x4 := x3.trans y3
    have hd1' := (y2.trans y3) _ _ hd1
    refine ⟨_, rfl, p, _, dx, _, _, rfl, x4 _ _ hp, T.c_Web, T.n_Web_places, rfl, n, rfl, by omega, by omega, for_range (fun i σ H' => H' = H2 ∧ ∃ v3 v4 v5, σ = [some (.ref p), some (.ref d1), some (.ref d2), v3, v4, v5]) ⟨rfl, _, _, _, rfl⟩ ?_ ?_⟩
    · rintro i σ _ hi ⟨rfl, v3, v4, v5, rfl⟩
      have ir : InR n (0 + (i : Int)) := ⟨by omega, by omega⟩
      have in1 : (0 + (i : Int)) ∈ ks1 := ro _ ir ks1 (s1 o (List.mem_singleton.mpr rfl)) c1
      have in2 : (0 + (i : Int)) ∈ ks2 := re _ ir ks2 s2 fun q hq => c2 (q.2, q.1) (List.mem_map.mpr ⟨q, hq, rfl⟩)
      refine ⟨_, rfl, _, rfl, d1, _, rfl, DGet.k (k := Sum.inl (0 + (i : Int))) hd1', _, rfl, ?_⟩
      rw [dg_val, if_pos (mem_ik.mpr in1)]
      refine iteF ⟨_, rfl, _, rfl, d2, _, rfl, DGet.k (k := Sum.inl (0 + (i : Int))) hd2, _, rfl, ?_⟩
      rw [dg_val, if_pos (mem_ik.mpr in2)]
      exact iteF ⟨rfl, _, _, _, rfl⟩
    · rintro σ _ ⟨rfl, v3, v4, v5, rfl⟩
      exact q _ x4
theorem sc_Web_init : FnScope ["self", "places", "edges", "entry", "exits", "kept", "edge", "index", "place"] ["self", "places", "edges", "entry", "exits"] (defScope s_Web_init) := ⟨rfl, rfl, rfl, by decide +kernel, rfl, by decide +kernel, by decide +kernel⟩
theorem mk_Web (T : Txt K mg) : C8.Mak P w K mg base 5 "Web" (He.ga K "Web") (spWebI K) [] := by
  obtain ⟨fd, F⟩ := T.f_Web_init
  refine makN T.k_Web T.g_Web F sc_Web_init (F.bindsN fun _ _ _ _ _ _ us hl => match us, hl with | [_, _, _, _, _], _ => rfl) len5 (fun cdv A outer s H vs Q E hr h => ?_)
  refine ⟨_, (pss_cons (ps_set (i := 5) sc_Web_init.nd rfl (by first | exact Or.inl rfl | exact Or.inr rfl) (pe_callTy call_tuple_of (by rfl) T.b_tuple (by decide +kernel) (pa_cons (pe_lc (own := [("edge", 6)]) (g := gName 6) (tt := tYes) rfl sc_Web_init.nd (pi_list (pv 2)) (blkOk_by (own := [("edge", 6)]) (N := ["self", "places", "edges", "entry", "exits", "kept", "edge", "index", "place"]) (sc := defScope s_Web_init) (by decide +kernel)) (fun _ _ _ _ _ => pg_name (i := 6) sc_Web_init.nd rfl (by first | exact Or.inl rfl | exact Or.inr rfl)) (fun _ _ _ _ _ => pts_nil) (fun _ _ _ _ _ => (pe_callTy (call_tupleK K rfl) (by rfl) T.b_tuple (by decide +kernel) (pa_cons (pv 6) pa_nil)))) pa_nil)))
      (pss_cons (ps_if (pt_not (pt_chain op_le op_le pe_int (pv 1) (C8.pe_gc rfl T.i_MOST_PLACES))) (pss_one ps_never)
      pss_nil)
      (pss_cons (ps_if (pt_cmpR op_gt (pe_callB call_len (by rfl) T.b_len (by decide +kernel) (pa_cons (pv 5) pa_nil)) (C8.pe_gc rfl T.i_MOST_EDGES) (nomark _)) (pss_one ps_never)
      pss_nil)
      (pss_cons (ps_for PassesOwn.never rfl (pi_enumA (by rfl) T.b_enumerate (pa_cons (pv 5) pa_nil)) (pg_tup (by rfl) (pgs_cons (pg_name (i := 7) sc_Web_init.nd rfl (by first | exact Or.inl rfl | exact Or.inr rfl)) (pgs_cons (pg_name (i := 6) sc_Web_init.nd rfl (by first | exact Or.inl rfl | exact Or.inr rfl)) pgs_nil)))
      (pss_one (ps_if (PW.pt (pw_or (pt_not (pt_val (C8.pe_c (c_good_edge T) hr (by decide) rfl (pa_cons (pv 6) (pa_cons (pv 1) pa_nil))))) (pw_or1 (pt_cmpR (op_inT hr) (pv 6) (pe_slice sl_tupA (pv 5) po_none (po_some (pv 7))) (by rfl))))) (pss_one ps_never)
      pss_nil)))
      (pss_cons (ps_if (pt_not (pt_chain op_le op_lt pe_int (pv 3) (pv 1))) (pss_one ps_never)
      pss_nil)
      (pss_cons (ps_if (pt_cmpR op_eq (pe_callB call_len (by rfl) T.b_len (by decide +kernel) (pa_cons (pv 4) pa_nil)) pe_int (nomark _)) (pss_one ps_never)
      pss_nil)
      (pss_cons (ps_for PassesOwn.never rfl (pi_list (pv 4)) (pg_name (i := 8) sc_Web_init.nd rfl (by first | exact Or.inl rfl | exact Or.inr rfl))
      (pss_one (ps_if (pt_not (pt_chain op_le op_lt pe_int (pv 8) (pv 1))) (pss_one ps_never)
      pss_nil)))
      (pss_cons (ps_fld (pv 0) (pv 1) rfl)
      (pss_cons (ps_fld (pv 0) (pv 5) rfl)
      (pss_cons (ps_fld (pv 0) (pv 3) rfl)
      (pss_cons (ps_fld (pv 0) (pe_callTy call_tuple_of (by rfl) T.b_tuple (by decide +kernel) (pa_cons (pe_lc (own := [("place", 8)]) (g := gName 8) (tt := _) rfl sc_Web_init.nd (pi_range1 (by rfl) T.b_range (pa_cons (pv 1) pa_nil)) (blkOk_by (own := [("place", 8)]) (N := ["self", "places", "edges", "entry", "exits", "kept", "edge", "index", "place"]) (sc := defScope s_Web_init) (by decide +kernel)) (fun _ _ _ _ _ => pg_name (i := 8) sc_Web_init.nd rfl (by first | exact Or.inl rfl | exact Or.inr rfl)) (fun _ _ _ _ _ => pts_one (pt_cmpR (op_inK K rfl) (pv 8) (pv 4) (by rfl))) (fun _ _ _ _ _ => (pv 8))) pa_nil)) rfl)
      (pss_one (ps_expr (C8.pe_mt0 (mt_Web_check_idle T) hr (by decide) (pv 0))))))))))))))), ?_⟩
  -- slots: 0:self 1:places 2:edges 3:entry 4:exits 5:kept 6:edge 7:index 8:place
  obtain ⟨x, y, z, u, v, rfl, p, dx, a, n, ps, o, b, gs, rfl, rfl, rfl, rfl, rfl, hp, he, hg, W, q⟩ := h
  obtain ⟨a', xs, e1, se, al⟩ := he.lstI
  cases e1
  have lxs : xs.length = ps.length := by rw [al.len, List.length_map]
  have lin : 2000 < sizeLine := by rw [sizeLine_eq]; omega
  have n1 := W.n1
  have n2 := W.n2
  have lp := W.lp
  have lg := W.lg
  refine ⟨_, rfl, a, rfl, ⟨_, se⟩, fun D hD => lcD_list (fun i => ps[i]?.map eP) hD se (by omega) (fun i v H' Nx hi x1 tn => ?_) fun H1 md => ?_⟩
  · obtain ⟨pp, t, hpp, rfl, ht⟩ := ePs_get al hi
    exact ⟨rfl, _, rfl, t, _, rfl, .inr ⟨ht.ext (x1.trans off_le), tn.keep0 (d := eP pp) (by simp [hpp]) (.tup (ht.ext x1) (.cons (.int _) (.cons (.int _) .nil)))⟩⟩
  · have eF : (List.range xs.length).filterMap (fun i => ps[i]?.map eP) = ps.map eP := by
      rw [lxs]
      exact fs_all _ ps
    rw [eF] at md
    have x1 := md.ext1
    obtain ⟨acc, _, hD1, al1⟩ := id md
    refine ⟨D, acc, rfl, .inl ⟨.of hD1, fun te hte => ?_⟩⟩
    have x2 : Ext H1 (upd H1 te (.tup acc)) := Ext.upd hte
    have ht2 : SqT K (upd H1 te (.tup acc)) te acc := .of upd_same
    have al2 : DpAll K (upd H1 te (.tup acc)) acc (ps.map eP) := (al1.ext off_le).ext x2
    have x3 := x1.trans x2
    generalize upd H1 te (.tup acc) = H2 at x2 ht2 al2 x3
    refine ⟨_, rfl, _, _, rfl, rfl, true, congrArg V.bl (decide_eq_true n1), iteT ⟨_, _, rfl, rfl, true, congrArg V.bl (decide_eq_true n2), iteF ?_⟩⟩
    have lacc : acc.length = ps.length := by rw [al2.len, List.length_map]
    refine ⟨_, rfl, _, _, rfl, .inr ⟨_, ht2, rfl⟩, _, _, rfl, rfl, false, congrArg V.bl (decide_eq_false (by omega)), iteF ?_⟩
    refine ⟨_, rfl, te, rfl, .inr ⟨⟨_, ht2⟩, for_enumT (fun i σ H' => Ext H2 H' ∧ ∃ v6 v7 v8, σ = [some (.ref p), some (.int n), some (.ref a), some (.int o), some (.ref b), some (.ref te), v6, v7, v8]) ⟨Ext.rfl', _, _, _, rfl⟩ (fun i σ H' z => ht2.ext z.1) ?_ ?_⟩⟩
    · rintro i v σ H' t hi ⟨y1, v6, v7, v8, rfl⟩ ht
      obtain ⟨pp, t', hpp, rfl, ht'⟩ := ePs_get (al2.ext y1) hi
      have y2 : Ext H' (upd H' t (.tup [.int (i : Nat), .ref t'])) := Ext.upd ht
      have pin : pp ∈ ps := List.mem_of_getElem? hpp
      refine ⟨t, _, rfl, .of upd_same, rfl, _, _, rfl, _, _, rfl, rfl, ?_⟩
      refine ⟨_, rfl, _, rfl, _, _, rfl, t', pp.1, pp.2, n, rfl, rfl, ht'.ext y2, (W.ip pp pin).1, (W.ip pp pin).2, true, rfl, iteF ?_⟩
      refine ⟨_, rfl, _, rfl, _, rfl, _, rfl, slT_take (ht2.ext (y1.trans y2)) (al2.ext (y1.trans y2)) i fun x H3 y3 dx => ?_⟩
      refine ⟨eP pp, _, .tup ((ht'.ext y2).ext y3) (.cons (.int _) (.cons (.int _) .nil)), dx, (shp_eP pp).ed (by omega), ?_, ?_⟩
      · rw [← List.map_take]
        exact (shp_ePs _).ed (by omega)
      · refine ⟨false, congrArg V.bl ?_, iteF ⟨(y1.trans y2).trans y3, _, _, _, rfl⟩⟩
        rw [if_neg Bool.false_ne_true, ← List.map_take]
        exact any_eqv_pairs pp _ (nodup_take W.nd hpp)
    · rintro σ H3 ⟨y1, v6, v7, v8, rfl⟩
      have x4 := x3.trans y1
      have nz : ¬ V.int (((gs.map V.int).length : Nat) : Int) = V.int 0 := by
        intro z
        injection z with z
        rw [List.length_map] at z
        exact W.ne (List.length_eq_zero_iff.mp (by omega))
      refine ⟨_, rfl, _, _, rfl, rfl, true, congrArg V.bl (decide_eq_true W.io.1), iteT ⟨_, rfl, _, _, rfl, rfl, true, congrArg V.bl (decide_eq_true W.io.2), iteF ?_⟩⟩
      refine ⟨_, rfl, _, _, rfl, .inl ⟨_, hg.ext x4, rfl⟩, rfl, false, congrArg V.bl (decide_eq_false nz), iteF ?_⟩
      refine ⟨_, rfl, b, rfl, ⟨_, hg.ext x4⟩, for_list (fun i σ H' => H' = H3 ∧ ∃ v8, σ = [some (.ref p), some (.int n), some (.ref a), some (.int o), some (.ref b), some (.ref te), v6, v7, v8]) ⟨rfl, _, rfl⟩ (fun i σ H' _ z => by rw [z.1]; exact hg.ext x4) ?_ ?_⟩
      · rintro i v σ _ hi ⟨rfl, v8, rfl⟩
        obtain ⟨k, hk, rfl⟩ := map_at hi
        have ik := W.ig k (List.mem_of_getElem? hk)
        exact ⟨_, rfl, _, _, rfl, rfl, true, congrArg V.bl (decide_eq_true ik.1), iteT ⟨_, rfl, _, _, rfl, rfl, true, congrArg V.bl (decide_eq_true ik.2), iteF ⟨rfl, _, rfl⟩⟩⟩
      · rintro σ H4 ⟨rfl, v8, rfl⟩
        have hp4 := x4 _ _ hp
        refine ⟨_, rfl, _, rfl, p, _, dx, _, rfl, hp4, T.c_Web, T.n_Web_places, (by show 0 < 1000; decide), ?_⟩
        refine ⟨_, rfl, _, rfl, p, _, dx, _, rfl, upd_same, T.c_Web, T.n_Web_edges, (by show 1 < 1000; decide), ?_⟩
        refine ⟨_, rfl, _, rfl, p, _, dx, _, rfl, upd_same, T.c_Web, T.n_Web_entry, (by show 2 < 1000; decide), ?_⟩
        have hp5 : (upd (upd (upd H4 p (.ins (cWeb K) dx (putF "places" (.int n) []))) p (.ins (cWeb K) dx (putF "edges" (.ref te) (putF "places" (.int n) [])))) p (.ins (cWeb K) dx (putF "entry" (.int o) (putF "edges" (.ref te) (putF "places" (.int n) []))))) p =
            some (.ins (cWeb K) dx [("places", .int n), ("edges", .ref te), ("entry", .int o)]) := upd_same
        have B5 : But p H4 (upd (upd (upd H4 p (.ins (cWeb K) dx (putF "places" (.int n) []))) p (.ins (cWeb K) dx (putF "edges" (.ref te) (putF "places" (.int n) [])))) p (.ins (cWeb K) dx (putF "entry" (.int o) (putF "edges" (.ref te) (putF "places" (.int n) []))))) := (But.put.trans .put).trans .put
        refine ⟨_, rfl, n, rfl, by omega, by omega, fun D2 hD2 => ?_⟩
        generalize upd (upd (upd H4 p (.ins (cWeb K) dx (putF "places" (.int n) []))) p (.ins (cWeb K) dx (putF "edges" (.ref te) (putF "places" (.int n) [])))) p (.ins (cWeb K) dx (putF "entry" (.int o) (putF "edges" (.ref te) (putF "places" (.int n) [])))) = H5 at hp5 B5 hD2 ⊢
        have hg5 : SqL K H5 b (gs.map V.int) := SqL.bi B5 hp4 (hg.ext x4)
        have he5 : SqT K H5 te acc := SqT.bi B5 hp4 (ht2.ext y1)
        have fb : ∀ i : Nat, i < n.toNat → (below n)[i]? = some (0 + (i : Int)) := fun i hi => by
          unfold below
          rw [List.getElem?_map, List.getElem?_range hi, Int.zero_add]
          rfl
        refine lcD_range (K := K) (Ff (below n) fun k => decide (k ∈ gs)) hD2 (by omega) (fun i H' Nx hi x5 tn => ?_) fun H6 md => ?_
        · have x6 := x5.trans off_le
          refine ⟨rfl, _, rfl, _, rfl, b, _, rfl, .inl (hg5.ext x6), rfl, flat_ints _, _, rfl, ?_⟩
          show if (inV (V.int (0 + (i : Int))) (gs.map V.int)) = true then _ else _
          rw [inV_ints]
          by_cases hm : (0 + (i : Int)) ∈ gs
          · rw [decide_eq_true hm]
            exact iteT ⟨_, rfl, tn.keep0 (d := .int (0 + (i : Int))) (by simp only [Ff, fb i hi, decide_eq_true hm, if_pos]) (.int _)⟩
          · rw [decide_eq_false hm]
            exact iteF (tn.drop0 (by simp only [Ff, fb i hi, decide_eq_false hm, Bool.false_eq_true, if_false]))
        · have eR : (List.range n.toNat).filterMap (Ff (below n) fun k => decide (k ∈ gs)) = (exits n gs).map PyData.int := by
            have := ff_all (below n) fun k => decide (k ∈ gs)
            rw [List.length_map, below_len] at this
            exact this
          rw [eR] at md
          have x7 := md.ext1
          obtain ⟨acc2, _, hD6, al6⟩ := id md
          obtain rfl := al6.intsI
          refine ⟨D2, _, rfl, .inl ⟨.of hD6, fun tx htx => ?_⟩⟩
          have x8 := x7.trans (Ext.upd (o := .tup ((exits n gs).map V.int)) htx)
          have htx8 : SqT K (upd H6 tx (.tup ((exits n gs).map V.int))) tx ((exits n gs).map V.int) := .of upd_same
          refine ⟨_, rfl, p, _, dx, _, rfl, x8 _ _ hp5, T.c_Web, T.n_Web_exits, (by show 3 < 1000; decide), ?_⟩
          generalize upd H6 tx (.tup ((exits n gs).map V.int)) = H8 at x8 htx8 ⊢
          have hp8 := x8 _ _ hp5
          have B9 : But p H8 (upd H8 p (.ins (cWeb K) dx [("places", .int n), ("edges", .ref te), ("entry", .int o), ("exits", .ref tx)])) := .put
          have hw : IsWeb K (upd H8 p (.ins (cWeb K) dx [("places", .int n), ("edges", .ref te), ("entry", .int o), ("exits", .ref tx)])) (.ref p) n ps o (exits n gs) := by
            refine ⟨p, dx, te, tx, rfl, upd_same, .tup (SqT.bi B9 hp8 (he5.ext x8)) ?_, SqT.bi B9 hp8 htx8⟩
            have q1 : DpAll K H4 acc (ps.map eP) := al2.ext y1
            exact DpAll.tu (Tu.trans (Tu.trans (tu_but B5 hp4) (tu_ext x8)) (tu_but B9 hp8)) _ _ (ePs_nl ps) q1
          refine ⟨_, rfl, p, dx, _, rfl, upd_same, rfl, _, rfl, n, ps, o, exits n gs, hw, by omega, by omega, ?_, W.ip, W.io, fun g hg => W.ig g ((mem_exits W.ig).mp hg), W.ro, ?_, fun H9 x9 => ?_⟩
          · have := List.length_filter_le (fun k => decide (k ∈ gs)) (below n)
            rw [below_len] at this
            unfold exits
            omega
          · intro k hk ks hks hcl
            exact W.re k hk ks (fun g hg => hks g ((mem_exits W.ig).mpr hg)) hcl
          · exact q _ ((((((But.of x4).trans B5).trans (.of x8)).trans B9)).trans (.of x9)) (hw.ext x9)
end
end Sv
namespace Sv
open PySem PySem.Spec PyProof.Rows L2
/-! ### prices -/
structure WD where
  n : Int
  ps : Gt
  o : Int
  ex : List Int
def WD.G (W : WD) : Gt := gatesW W.ps W.o W.ex
/-- what is known of a web's numbers -/
structure WD.Ok (W : WD) : Prop where
  n0 : 0 < W.n
  n1 : W.n ≤ 24
  lp : W.ps.length ≤ 80
  le : W.ex.length ≤ 60
  ip : ∀ p ∈ W.ps, InR W.n p.1 ∧ InR W.n p.2
  io : InR W.n W.o
  ie : ∀ g ∈ W.ex, InR W.n g
abbrev IsW (K : PySem.W.Frag) (H : Hp) (x : V) (W : WD) : Prop := IsWeb K H x W.n W.ps W.o W.ex
theorem WD.Ok.lG {W : WD} (h : W.Ok) : W.G.length ≤ 141 := by
  unfold WD.G
  rw [gatesW_len]
  have := h.lp
  have := h.le
  omega
def SqA (K : PySem.W.Frag) (H : Hp) (a : Addr) (xs : List V) : Prop := SqL K H a xs ∨ SqT K H a xs
theorem SqA.ext {K : PySem.W.Frag} {H H' : Hp} {a : Addr} {xs : List V} (h : Sv.SqA K H a xs) (e : Ext H H') : Sv.SqA K H' a xs := h.imp (fun z => z.ext e) fun z => z.ext e
theorem tuple_or {K : PySem.W.Frag} {H : Hp} {a : Addr} {xs : List V} {Q : VK} (h : Sv.SqA K H a xs) (k : ∀ t H', Ext H H' → SqT K H' t xs → Q (.ref t) H') :
    (SqL K H a xs ∧ ∀ l, H l = none → Q (.ref l) (upd H l (.tup xs))) ∨ (SqT K H a xs ∧ Q (.ref a) H) := by
  rcases h with h | h
  · exact .inl ⟨h, fun l hl => k l _ (Ext.upd hl) (.of upd_same)⟩
  · exact .inr ⟨h, k a H Ext.rfl' h⟩
/-- a web stays when another, still bare, instance is written -/
theorem web_but {K : PySem.W.Frag} {H H' : Hp} {p C dx : Addr} {x : V} {n o : Int} {ps : Gt} {ex : List Int} (B : But p H H') (hp : H p = some (.ins C dx [])) (h : IsWeb K H x n ps o ex) : IsWeb K H' x n ps o ex := by
  obtain ⟨q, dx', te, tx, rfl, a, b, c⟩ := h
  have ne : q ≠ p := fun z => by
    rw [z, hp] at a
    cases a
  exact ⟨q, dx', te, tx, rfl, B _ _ ne a, Dp.tu (tu_but B hp) _ _ (by rw [nl]; exact ePs_nl ps) b, SqT.bi B hp c⟩
theorem for_enumA {K : PySem.W.Frag} {a : Addr} {xs : List V} {g : TG} {tb : TS} {D : Ends} {σ : L2.St} {H0 H : Hp} (h : Sv.SqA K H0 a xs) (hx : Ext H0 H) (Pv : Nat → L2.St → Hp → Prop) (h0 : Pv 0 σ H) (hl : ∀ i σ H', Pv i σ H' → Ext H0 H')
    (hs : ∀ i x σ H T, xs[i]? = some x → Pv i σ H → H T = none → g (.ref T) σ (upd H T (.tup [.int (i : Nat), x])) fun σ2 H2 => tb { D with nx := Pv (i + 1), ct := Pv (i + 1), bk := D.nx } σ2 H2) (hd : ∀ σ H, Pv xs.length σ H → D.nx σ H) :
    ((∃ ys, SqL K H a ys) ∧ ∃ W : Nat → Nat → L2.St → Hp → Prop, (∃ m, W 0 m σ H) ∧ ∀ i m σ H, W i m σ H →
      ((Ite K a).stop i H ∧ D.nx σ H) ∨ ((Ite K a).go i H ∧ ∃ N : L2.St → Hp → Prop, (∀ σ' H', N σ' H' → ∃ m', m' < m ∧ W (i + 1) m' σ' H') ∧ ∀ x H', (Ite K a).yld i H x H' → g x σ H' fun σ2 H2 => tb { D with nx := N, ct := N, bk := D.nx } σ2 H2)) ∨
    ((∃ ys, SqT K H a ys) ∧ ∃ W : Nat → Nat → L2.St → Hp → Prop, (∃ m, W 0 m σ H) ∧ ∀ i m σ H, W i m σ H →
      ((IteT K a).stop i H ∧ D.nx σ H) ∨ ((IteT K a).go i H ∧ ∃ N : L2.St → Hp → Prop, (∀ σ' H', N σ' H' → ∃ m', m' < m ∧ W (i + 1) m' σ' H') ∧ ∀ x H', (IteT K a).yld i H x H' → g x σ H' fun σ2 H2 => tb { D with nx := N, ct := N, bk := D.nx } σ2 H2)) := by
  rcases h with h | h
  · exact .inl ⟨⟨_, h.ext hx⟩, for_enumL Pv h0 (fun i σ H' p => h.ext (hl i σ H' p)) hs hd⟩
  · exact .inr ⟨⟨_, h.ext hx⟩, for_enumT Pv h0 (fun i σ H' p => h.ext (hl i σ H' p)) hs hd⟩
theorem os_at {os : List (Option Int)} {i : Nat} {x : V} (h : (os.map oV)[i]? = some x) : ∃ o, os[i]? = some o ∧ x = oV o := by
  rw [List.getElem?_map] at h
  cases e : os[i]? with
  | none => rw [e] at h; cases h
  | some k =>
    rw [e] at h
    exact ⟨k, rfl, (Option.some.inj h).symm⟩
def IsPr (K : PySem.W.Frag) (H : Hp) (x : V) (W : WD) (sv bk : List (Option Int)) : Prop := ∃ p dx w ts tb, x = .ref p ∧ H p = some (.ins (cPr K) dx [("web", w), ("saves", .ref ts), ("backs", .ref tb)]) ∧ IsW K H w W ∧ SqT K H ts (sv.map oV) ∧ SqT K H tb (bk.map oV) ∧ sv.length = W.G.length ∧ bk.length = W.G.length
theorem IsPr.im {K : PySem.W.Frag} {H H' : Hp} {x : V} {W : WD} {sv bk : List (Option Int)} (h : IsPr K H x W sv bk) (e : Im H H') : IsPr K H' x W sv bk := by
  obtain ⟨p, dx, w, ts, tb, rfl, a, b, c, d, f⟩ := h
  exact ⟨p, dx, w, ts, tb, rfl, e.ins _ _ _ _ a, b.im e, c.im e, d.im e, f⟩
theorem IsPr.ext {K : PySem.W.Frag} {H H' : Hp} {x : V} {W : WD} {sv bk : List (Option Int)} (h : IsPr K H x W sv bk) (e : Ext H H') : IsPr K H' x W sv bk := h.im (.of e)
def OkP (o : Option Int) : Prop := ∀ i, o = some i → 0 ≤ i ∧ i ≤ 100000
def wd (b : Bool) : PySem.Str := if b then "save" else "back"
def spGoodPrice : Sp := sp1 fun x H Q => ∃ o, x = oV o ∧ OkP o ∧ Q (.bl true) H
def spCheckWord : Sp := sp1 fun x H Q => ∃ b, x = .str (wd b) ∧ Q .non H
def spCheckNums (K : PySem.W.Frag) : Sp := sp1 fun x H Q => ∃ a os, x = .ref a ∧ Sv.SqA K H a (List.map oV os) ∧ (∀ o ∈ os, OkP o) ∧ ∀ H', Ext H H' → Q .non H'
def spReplaced (K : PySem.W.Frag) : Sp := sp3 fun x y z H Q => ∃ a os g o, x = .ref a ∧ y = .int (g : Nat) ∧ z = oV o ∧ SqT K H a (List.map oV os) ∧ g < os.length ∧ os.length < 1000 ∧ ∀ t H', Ext H H' → SqT K H' t (List.map oV (os.set g o)) → Q (.ref t) H'
def spCheckWeb (K : PySem.W.Frag) : Sp := sp2 fun x y H Q => ∃ W sv bk, IsW K H x W ∧ IsPr K H y W sv bk ∧ ∀ H', Ext H H' → Q .non H'
def spPrI (K : PySem.W.Frag) : Sp := sp4 fun x y z u H Q => ∃ p dx W a b sv bk, x = .ref p ∧ H p = some (.ins (cPr K) dx []) ∧ IsW K H y W ∧ z = .ref a ∧ u = .ref b ∧ Sv.SqA K H a (List.map oV sv) ∧ Sv.SqA K H b (List.map oV bk) ∧ sv.length = W.G.length ∧ bk.length = W.G.length ∧ (∀ o ∈ sv, OkP o) ∧ (∀ o ∈ bk, OkP o) ∧
  ∀ H', But p H H' → IsPr K H' (.ref p) W sv bk → Q .non H'
def spGetP (K : PySem.W.Frag) : Sp := sp2 fun x y H Q => ∃ W sv bk t g b, IsPr K H x W sv bk ∧ y = .ref t ∧ SqT K H t [.int (g : Nat), .str (wd b)] ∧ g < W.G.length ∧ Q (oV ((if b then sv else bk).getD g none)) H
def spWithP (K : PySem.W.Frag) : Sp := sp4 fun x y z u H Q => ∃ W sv bk g b o, IsPr K H x W sv bk ∧ W.Ok ∧ y = .int (g : Nat) ∧ z = .str (wd b) ∧ u = oV o ∧ g < W.G.length ∧ OkP o ∧ (∀ o ∈ sv, OkP o) ∧ (∀ o ∈ bk, OkP o) ∧
  ∀ x' H', Ext H H' → IsPr K H' x' W (if b then sv.set g o else sv) (if b then bk else bk.set g o) → Q x' H'
/-- Prices(..) is made -/
theorem pr_mk {K : PySem.W.Frag} {H1 : Hp} {y : V} {a b : Addr} {W : WD} {sv bk : List (Option Int)} {Q : VK} {E : XK} (hw : IsW K H1 y W) (ha : Sv.SqA K H1 a (sv.map oV)) (hb : Sv.SqA K H1 b (bk.map oV)) (ls : sv.length = W.G.length) (lb : bk.length = W.G.length) (os : ∀ o ∈ sv, OkP o) (ob : ∀ o ∈ bk, OkP o)
    (k : ∀ x H', Ext H1 H' → IsPr K H' x W sv bk → Q x H') (x dx : Addr) (hx : H1 x = none) (hd : H1 dx = none) (ne : dx ≠ x) :
    spPrI K [.ref x, y, .ref a, .ref b] (upd (upd H1 dx (.own x)) x (.ins (cPr K) dx [])) (fun v H2 => v = .non ∧ Q (.ref x) H2) E :=
  ⟨_, _, _, _, rfl, x, dx, W, a, b, sv, bk, rfl, upd_same, hw.ext (mk_in hx hd ne), rfl, rfl, ha.ext (mk_in hx hd ne), hb.ext (mk_in hx hd ne), ls, lb, os, ob, fun H' B h => ⟨rfl, k _ H' (mk_ext hx hd ne B) h⟩⟩
theorem okp_set {os : List (Option Int)} {o : Option Int} (h : ∀ x ∈ os, OkP x) (ho : OkP o) (g : Nat) : ∀ x ∈ os.set g o, OkP x := fun x hx => by
  rcases List.mem_or_eq_of_mem_set hx with z | z
  · exact h x z
  · rw [z]
    exact ho
theorem wd_in (b : Bool) : inV (.str (wd b)) [.str "save", .str "back"] = true := by cases b <;> rfl
theorem wd_save (b : Bool) : decide (V.str (wd b) = V.str "save") = b := by
  cases b
  · decide +kernel
  · decide +kernel
section
variable {P : Program} {w : World} {K : PySem.W.Frag} {mg : PySem.Str → Option Value} {base : Heap}
theorem sc_good_price : FnScope ["price"] ["price"] (defScope s_good_price) := ⟨rfl, rfl, rfl, by decide +kernel, rfl, by decide +kernel, by decide +kernel⟩
theorem c_good_price (T : Txt K mg) : C8.Cal P w K mg base 1 "good_price" (spGoodPrice) [] := by
  obtain ⟨fd, F⟩ := T.f_good_price
  refine calN F T.g_good_price sc_good_price (F.bindsN fun _ _ _ _ _ _ us hl => match us, hl with | [_], _ => rfl) len1 (fun cdv A outer s H vs Q E hr h => ?_)
  refine ⟨_, (pss_one (ps_ret (pe_or (pe_cmpR op_isN (pv 0) pe_non (nomark _)) (pe_one (pe_chain op_le op_le pe_int (pv 0) (C8.pe_gc rfl T.i_MOST)))))), ?_⟩
  -- slots: 0:price
  obtain ⟨x, rfl, o, rfl, ho, q⟩ := h
  cases o with
  | none => exact ⟨_, rfl, rfl, true, congrArg V.bl (decide_eq_true rfl), iteT q⟩
  | some i =>
    obtain ⟨i0, i1⟩ := ho i rfl
    refine ⟨_, rfl, rfl, false, congrArg V.bl (decide_eq_false (by intro z; cases z)), iteF ⟨_, rfl, _, _, rfl, rfl, true, congrArg V.bl (decide_eq_true i0), iteT ⟨_, _, rfl, rfl, ?_⟩⟩⟩
    show Q (.bl (decide (i ≤ 100000))) H
    rw [decide_eq_true i1]
    exact q
theorem sc_check_word : FnScope ["word"] ["word"] (defScope s_check_word) := ⟨rfl, rfl, rfl, by decide +kernel, rfl, by decide +kernel, by decide +kernel⟩
theorem c_check_word (T : Txt K mg) : C8.Cal P w K mg base 1 "check_word" (spCheckWord) [] := by
  obtain ⟨fd, F⟩ := T.f_check_word
  refine calN F T.g_check_word sc_check_word (F.bindsN fun _ _ _ _ _ _ us hl => match us, hl with | [_], _ => rfl) len1 (fun cdv A outer s H vs Q E hr h => ?_)
  refine ⟨_, (pss_one (ps_if (pt_cmpR op_notIn_seq (pv 0) (C8.pe_gc rfl ⟨_, T.g_WORDS, rref _⟩) (by rfl)) (pss_one ps_never)
      pss_nil)), ?_⟩
  -- slots: 0:word
  obtain ⟨x, rfl, b, rfl, q⟩ := h
  refine ⟨_, rfl, _, _, rfl, .inr (T.words H), rfl, rfl, _, rfl, ?_⟩
  show if (!inV (.str (wd b)) [.str "save", .str "back"]) = true then _ else _
  rw [wd_in]
  exact iteF q
theorem sc_check_numbers : FnScope ["numbers", "gate", "price"] ["numbers"] (defScope s_check_numbers) := ⟨rfl, rfl, rfl, by decide +kernel, rfl, by decide +kernel, by decide +kernel⟩
theorem c_check_numbers (T : Txt K mg) : C8.Cal P w K mg base 2 "check_numbers" (spCheckNums K) [] := by
  obtain ⟨fd, F⟩ := T.f_check_numbers
  refine calN F T.g_check_numbers sc_check_numbers (F.bindsN fun _ _ _ _ _ _ us hl => match us, hl with | [_], _ => rfl) len1 (fun cdv A outer s H vs Q E hr h => ?_)
  refine ⟨_, (pss_one (ps_for PassesOwn.never rfl (pi_enumA (by rfl) T.b_enumerate (pa_cons (pv 0) pa_nil)) (pg_tup (by rfl) (pgs_cons (pg_name (i := 1) sc_check_numbers.nd rfl (by first | exact Or.inl rfl | exact Or.inr rfl)) (pgs_cons (pg_name (i := 2) sc_check_numbers.nd rfl (by first | exact Or.inl rfl | exact Or.inr rfl)) pgs_nil)))
      (pss_one (ps_if (pt_not (pt_val (C8.pe_c (c_good_price T) hr (by decide) rfl (pa_cons (pv 2) pa_nil)))) (pss_one ps_never)
      pss_nil)))), ?_⟩
  -- slots: 0:numbers 1:gate 2:price
  obtain ⟨x, rfl, a, os, rfl, ha, ok, q⟩ := h
  refine ⟨_, rfl, a, rfl, for_enumA ha Ext.rfl' (fun i σ H' => Ext H H' ∧ ∃ v1 v2, σ = [some (.ref a), v1, v2]) ⟨Ext.rfl', _, _, rfl⟩ (fun i σ H' z => z.1) ?_ ?_⟩
  · rintro i v σ H' t hi ⟨x1, v1, v2, rfl⟩ ht
    obtain ⟨o, ho, rfl⟩ := os_at hi
    refine ⟨t, _, rfl, .of upd_same, rfl, _, _, rfl, _, _, rfl, rfl, ?_⟩
    exact ⟨_, rfl, _, rfl, o, rfl, ok o (List.mem_of_getElem? ho), true, rfl, iteF ⟨x1.trans (Ext.upd ht), _, _, rfl⟩⟩
  · rintro σ H' ⟨x1, v1, v2, rfl⟩
    exact q _ x1
theorem sc_replaced : FnScope ["numbers", "at", "price"] ["numbers", "at", "price"] (defScope s_replaced) := ⟨rfl, rfl, rfl, by decide +kernel, rfl, by decide +kernel, by decide +kernel⟩
theorem c_replaced (T : Txt K mg) : C8.Cal P w K mg base 1 "replaced" (spReplaced K) [] := by
  obtain ⟨fd, F⟩ := T.f_replaced
  refine calN F T.g_replaced sc_replaced (F.bindsN fun _ _ _ _ _ _ us hl => match us, hl with | [_, _, _], _ => rfl) len3 (fun cdv A outer s H vs Q E hr h => ?_)
  refine ⟨_, (pss_one (ps_ret (pe_tup (StX.pa_star (pe_slice sl_tupA (pv 0) po_none (po_some (pv 1))) (pa_cons (pv 2) (StX.pa_star (pe_slice sl_tupA (pv 0) (po_some (pe_op op_add (pv 1) pe_int)) po_none) pa_nil)))))), ?_⟩
  -- slots: 0:numbers 1:at 2:price
  obtain ⟨x, y, z, rfl, a, os, g, o, rfl, rfl, rfl, ha, hg, hl, q⟩ := h
  refine ⟨_, rfl, _, rfl, _, rfl, slT_take ha (DpAll.os os) g fun x1 H1 e1 d1 => ?_⟩
  obtain ⟨p1, l1, rfl, s1, a1⟩ := d1.tupI
  rw [← List.map_take] at a1
  obtain rfl := a1.osI
  refine ⟨p1, _, rfl, .inl s1, _, rfl, _, rfl, _, rfl, _, _, rfl, rfl, ((g + 1 : Nat) : Int), congrArg V.int (Int.natCast_succ g).symm, ?_⟩
  unfold tNoPart
  refine slT_drop (k := g + 1) (ha.ext e1) (DpAll.os os) fun x2 H2 e2 d2 => ?_
  obtain ⟨p2, l2, rfl, s2, a2⟩ := d2.tupI
  rw [← List.map_drop] at a2
  obtain rfl := a2.osI
  have el : (os.take g).map oV ++ (oV o :: ((os.drop (g + 1)).map oV ++ [])) = (os.set g o).map oV := by
    rw [List.append_nil, List.set_eq_take_append_cons_drop, if_pos hg, List.map_append, List.map_cons]
  refine ⟨p2, _, rfl, .inl s2, ?_⟩
  show (List.map oV (os.take g) ++ (oV o :: ((os.drop (g + 1)).map oV ++ []))).length ≤ sizeLine ∧ ∀ p, H2 p = none → Q (.ref p) (upd H2 p (.tup ((os.take g).map oV ++ (oV o :: ((os.drop (g + 1)).map oV ++ [])))))
  rw [el]
  refine ⟨by rw [List.length_map, List.length_set, sizeLine_eq]; omega, fun t ht => q t _ ((e1.trans e2).trans (Ext.upd ht)) (.of upd_same)⟩
theorem sc_check_web : FnScope ["web", "prices"] ["web", "prices"] (defScope s_check_web) := ⟨rfl, rfl, rfl, by decide +kernel, rfl, by decide +kernel, by decide +kernel⟩
theorem c_check_web (T : Txt K mg) : C8.Cal P w K mg base 4 "check_web" (spCheckWeb K) [] := by
  obtain ⟨fd, F⟩ := T.f_check_web
  refine calN F T.g_check_web sc_check_web (F.bindsN fun _ _ _ _ _ _ us hl => match us, hl with | [_, _], _ => rfl) len2 (fun cdv A outer s H vs Q E hr h => ?_)
  refine ⟨_, (pss_one (ps_if (pt_not (pt_cmpR (op_eqG (rc_web T) (hr.mono (by decide))) (pe_fld (pv 1) rfl) (pv 0) (nomark _))) (pss_one ps_never)
      pss_nil)), ?_⟩
  -- slots: 0:web 1:prices
  obtain ⟨x, y, rfl, W, sv, bk, hw, ⟨p, dx, w', ts, tb, rfl, hp, hw', _⟩, q⟩ := h
  exact ⟨_, rfl, p, _, dx, _, _, rfl, hp, T.c_Prices, T.n_Prices_web, rfl, _, rfl, web_eq hw' hw, fun H' x1 => ⟨true, rfl, iteF (q H' x1)⟩⟩
theorem sc_Prices_getitem : FnScope ["self", "at", "gate", "word"] ["self", "at"] (defScope s_Prices_getitem) := ⟨rfl, rfl, rfl, by decide +kernel, rfl, by decide +kernel, by decide +kernel⟩
theorem mt_Prices_getitem (T : Txt K mg) : C8.Met P w K mg base 4 (He.ga K "Prices") "__getitem__" (spGetP K) [] := by
  obtain ⟨fd, F⟩ := T.f_Prices_getitem
  refine metN T.c_Prices T.m_Prices_getitem F sc_Prices_getitem (F.bindsN fun _ _ _ _ _ _ us hl => match us, hl with | [_, _], _ => rfl) len2 (fun cdv A outer s H vs Q E hr h => ?_)
  refine ⟨_, (pss_cons (ps_asg (pv 1) (pg_tup (by rfl) (pgs_cons (pg_name (i := 2) sc_Prices_getitem.nd rfl (by first | exact Or.inl rfl | exact Or.inr rfl)) (pgs_cons (pg_name (i := 3) sc_Prices_getitem.nd rfl (by first | exact Or.inl rfl | exact Or.inr rfl)) pgs_nil))))
      (pss_cons (ps_expr (C8.pe_c (c_check_gate T) hr (by decide) rfl (pa_cons (pe_fld (pv 0) rfl) (pa_cons (pv 2) pa_nil))))
      (pss_cons (ps_expr (C8.pe_c (c_check_word T) hr (by decide) rfl (pa_cons (pv 3) pa_nil)))
      (pss_one (ps_ret (pe_ifExp (pt_cmpR op_eq (pv 3) pe_str (nomark _)) (pe_ix ix_tup (pe_fld (pv 0) rfl) (pv 2) (fun _ _ => rfl)) (pe_ix ix_tup (pe_fld (pv 0) rfl) (pv 2) (fun _ _ => rfl)))))))), ?_⟩
  -- slots: 0:self 1:at 2:gate 3:word
  obtain ⟨x, y, rfl, W, sv, bk, t, g, b, ⟨p, dx, w', ts, tb, rfl, hp, hw, hs, hb, ls, lb⟩, rfl, ht, hg, q⟩ := h
  refine ⟨_, rfl, t, _, rfl, ht, rfl, _, _, rfl, _, _, rfl, rfl, ?_⟩
  refine ⟨_, rfl, p, _, dx, _, _, rfl, hp, T.c_Prices, T.n_Prices_web, rfl, _, rfl, _, _, rfl, W.n, W.ps, W.o, W.ex, (g : Int), hw, rfl, ⟨by omega, by show (g : Int) < (W.G.length : Nat); omega⟩, ?_⟩
  refine ⟨_, rfl, _, rfl, b, rfl, ?_⟩
  refine ⟨_, rfl, rfl, _, rfl, ?_⟩
  show if decide (V.str (wd b) = V.str "save") = true then _ else _
  rw [wd_save]
  have at_ : ∀ {os : List (Option Int)}, g < os.length → (os.map oV)[g]? = some (oV (os.getD g none)) := fun {os} h => by
    rw [List.getElem?_map, List.getD_eq_getElem?_getD, List.getElem?_eq_getElem h]
    rfl
  cases b with
  | true => exact iteT ⟨_, rfl, p, _, dx, _, _, rfl, hp, T.c_Prices, T.n_Prices_saves, rfl, _, rfl, ts, _, _, _, rfl, rfl, hs, atI_nat (at_ (by omega)), q⟩
  | false => exact iteF ⟨_, rfl, p, _, dx, _, _, rfl, hp, T.c_Prices, T.n_Prices_backs, rfl, _, rfl, tb, _, _, _, rfl, rfl, hb, atI_nat (at_ (by omega)), q⟩
theorem sc_Prices_init : FnScope ["self", "web", "saves", "backs", "numbers"] ["self", "web", "saves", "backs"] (defScope s_Prices_init) := ⟨rfl, rfl, rfl, by decide +kernel, rfl, by decide +kernel, by decide +kernel⟩
theorem mk_Prices (T : Txt K mg) : C8.Mak P w K mg base 4 "Prices" (He.ga K "Prices") (spPrI K) [] := by
  obtain ⟨fd, F⟩ := T.f_Prices_init
  refine makN T.k_Prices T.g_Prices F sc_Prices_init (F.bindsN fun _ _ _ _ _ _ us hl => match us, hl with | [_, _, _, _], _ => rfl) len4 (fun cdv A outer s H vs Q E hr h => ?_)
  refine ⟨_, (pss_cons (ps_for PassesOwn.never rfl (pi_tup (pe_tup (pa_cons (pv 2) (pa_cons (pv 3) pa_nil)))) (pg_name (i := 4) sc_Prices_init.nd rfl (by first | exact Or.inl rfl | exact Or.inr rfl))
      (pss_one (ps_if (pt_cmpR op_ne (pe_callB call_len (by rfl) T.b_len (by decide +kernel) (pa_cons (pv 4) pa_nil)) (pe_gates T hr (pv 1)) (nomark _)) (pss_one ps_never)
      pss_nil)))
      (pss_cons (ps_expr (C8.pe_c (c_check_numbers T) hr (by decide) rfl (pa_cons (pv 2) pa_nil)))
      (pss_cons (ps_expr (C8.pe_c (c_check_numbers T) hr (by decide) rfl (pa_cons (pv 3) pa_nil)))
      (pss_cons (ps_fld (pv 0) (pv 1) rfl)
      (C8.pss_cut (ps_fld (pv 0) (pe_callTy call_tuple_of (by rfl) T.b_tuple (by decide +kernel) (pa_cons (pv 2) pa_nil)) rfl)
      (pss_one (ps_fld (pv 0) (pe_callTy call_tuple_of (by rfl) T.b_tuple (by decide +kernel) (pa_cons (pv 3) pa_nil)) rfl))))))), ?_⟩
  -- slots: 0:self 1:web 2:saves 3:backs 4:numbers
  obtain ⟨x, y, z, u, rfl, p, dx, W, a, b, sv, bk, rfl, hp, hw, rfl, rfl, ha, hb, ls, lb, os, ob, q⟩ := h
  have lenA : ∀ {H' : Hp} {a : Addr} {os : List (Option Int)}, Sv.SqA K H' a (os.map oV) → LenV K (.ref a) H' (os.length : Nat) := fun {H' a os} h => h.elim (fun h => .inl ⟨_, h, by rw [List.length_map]⟩) fun h => .inr ⟨_, h, by rw [List.length_map]⟩
  refine ⟨_, rfl, _, rfl, by show 2 ≤ sizeLine; decide, fun t ht => ⟨t, rfl, ⟨_, .of upd_same⟩, ?_⟩⟩
  have x1 : Ext H (upd H t (.tup [.ref a, .ref b])) := Ext.upd ht
  have ht1 : SqT K (upd H t (.tup [.ref a, .ref b])) t [.ref a, .ref b] := .of upd_same
  generalize upd H t (.tup [.ref a, .ref b]) = H1 at x1 ht1 ⊢
  refine for_tup (K := K) (a := t) (xs := [.ref a, .ref b]) (fun i σ H' => H' = H1 ∧ ∃ v4, σ = [some (.ref p), some y, some (.ref a), some (.ref b), v4]) ⟨rfl, _, rfl⟩ (fun i σ H' _ z => by rw [z.1]; exact ht1) ?_ ?_
  · rintro i v σ H2 hi ⟨rfl, v4, rfl⟩
    have e : ∃ c os, v = .ref c ∧ Sv.SqA K H2 c (List.map oV os) ∧ os.length = W.G.length := by
      match i, hi with
      | 0, hi => cases hi; exact ⟨a, sv, rfl, ha.ext x1, ls⟩
      | 1, hi => cases hi; exact ⟨b, bk, rfl, hb.ext x1, lb⟩
    obtain ⟨c, os', rfl, hc, lc⟩ := e
    refine ⟨_, rfl, _, _, rfl, lenA hc, _, rfl, read_gates (hw.ext x1) ⟨rfl, false, congrArg V.bl ?_, iteF ⟨rfl, _, rfl⟩⟩⟩
    have e2 : decide (V.int ((os'.length : Nat) : Int) = V.int ((gatesW W.ps W.o W.ex).length : Nat)) = true := decide_eq_true (by rw [lc]; rfl)
    rw [e2]
    rfl
  · rintro σ H2 ⟨rfl, v4, rfl⟩
    refine ⟨_, rfl, _, rfl, a, sv, rfl, ha.ext x1, os, fun H3 x2 => ⟨_, rfl, _, rfl, b, bk, rfl, hb.ext (x1.trans x2), ob, fun H4 x3 => ?_⟩⟩
    have x4 := (x1.trans x2).trans x3
    have hp4 := x4 _ _ hp
    refine ⟨_, rfl, _, rfl, p, _, dx, _, rfl, hp4, T.c_Prices, T.n_Prices_web, (by show 0 < 1000; decide), ?_⟩
    have B5 : But p H4 (upd H4 p (.ins (cPr K) dx (putF "web" y []))) := .put
    have hp5 : upd H4 p (.ins (cPr K) dx (putF "web" y [])) p = some (.ins (cPr K) dx [("web", y)]) := upd_same
    generalize upd H4 p (.ins (cPr K) dx (putF "web" y [])) = H5 at B5 hp5 ⊢
    have sb : ∀ {c : Addr} {xs : List V} {H H' : Hp} {fs : List (PySem.Str × V)}, But p H H' → H p = some (.ins (cPr K) dx fs) → Sv.SqA K H c xs → Sv.SqA K H' c xs := fun B e h => h.imp (fun z => SqL.bi B e z) fun z => SqT.bi B e z
    refine ⟨fun σ' H' => σ' = [some (.ref p), some y, some (.ref a), some (.ref b), v4] ∧ ∃ ts, SqT K H' ts (sv.map oV) ∧ But p H5 H' ∧ H' p = some (.ins (cPr K) dx [("web", y), ("saves", .ref ts)]), ?_, ?_⟩
    · rcases sb B5 hp4 (ha.ext x4) with h | h
      · refine ⟨_, rfl, a, _, rfl, .inl ⟨h, fun ts hts => ?_⟩⟩
        have y1 : Ext H5 (upd H5 ts (.tup (sv.map oV))) := Ext.upd hts
        exact ⟨_, rfl, p, _, dx, _, rfl, y1 _ _ hp5, T.c_Prices, T.n_Prices_saves, (by show 1 < 1000; decide), rfl, ts, SqT.bi .put (y1 _ _ hp5) (.of upd_same), (But.of y1).trans .put, upd_same⟩
      · exact ⟨_, rfl, a, _, rfl, .inr ⟨h, _, rfl, p, _, dx, _, rfl, hp5, T.c_Prices, T.n_Prices_saves, (by show 1 < 1000; decide), rfl, a, SqT.bi .put hp5 h, .put, upd_same⟩⟩
    · rintro σ' H7 ⟨rfl, ts, hts, B7, hp7⟩
      have last : ∀ tb H8, Ext H7 H8 → SqT K H8 tb (bk.map oV) → Q .non (upd H8 p (.ins (cPr K) dx (putF "backs" (.ref tb) [("web", y), ("saves", .ref ts)]))) := fun tb H8 x8 htb => by
        have B9 : But p H8 (upd H8 p (.ins (cPr K) dx (putF "backs" (.ref tb) [("web", y), ("saves", .ref ts)]))) := .put
        have B : But p H (upd H8 p (.ins (cPr K) dx (putF "backs" (.ref tb) [("web", y), ("saves", .ref ts)]))) := ((((But.of x4).trans B5).trans B7).trans (.of x8)).trans B9
        exact q _ B ⟨p, dx, y, ts, tb, rfl, upd_same, web_but B hp hw, SqT.bi B9 (x8 _ _ hp7) (hts.ext x8), SqT.bi B9 (x8 _ _ hp7) htb, ls, lb⟩
      rcases sb B7 hp5 (sb B5 hp4 (hb.ext x4)) with h | h
      · refine ⟨_, rfl, b, _, rfl, .inl ⟨h, fun tb htb => ?_⟩⟩
        have y1 : Ext H7 (upd H7 tb (.tup (bk.map oV))) := Ext.upd htb
        exact ⟨_, rfl, p, _, dx, _, rfl, y1 _ _ hp7, T.c_Prices, T.n_Prices_backs, (by show 2 < 1000; decide), last tb _ y1 (.of upd_same)⟩
      · exact ⟨_, rfl, b, _, rfl, .inr ⟨h, _, rfl, p, _, dx, _, rfl, hp7, T.c_Prices, T.n_Prices_backs, (by show 2 < 1000; decide), last b _ Ext.rfl' h⟩⟩
theorem sc_Prices_with_price : FnScope ["self", "gate", "word", "price"] ["self", "gate", "word", "price"] (defScope s_Prices_with_price) := ⟨rfl, rfl, rfl, by decide +kernel, rfl, by decide +kernel, by decide +kernel⟩
theorem mt_Prices_with_price (T : Txt K mg) : C8.Met P w K mg base 6 (He.ga K "Prices") "with_price" (spWithP K) [] := by
  obtain ⟨fd, F⟩ := T.f_Prices_with_price
  refine metN T.c_Prices T.m_Prices_with_price F sc_Prices_with_price (F.bindsN fun _ _ _ _ _ _ us hl => match us, hl with | [_, _, _, _], _ => rfl) len4 (fun cdv A outer s H vs Q E hr h => ?_)
  refine ⟨_, (pss_cons (ps_expr (C8.pe_c (c_check_gate T) hr (by decide) rfl (pa_cons (pe_fld (pv 0) rfl) (pa_cons (pv 1) pa_nil))))
      (pss_cons (ps_expr (C8.pe_c (c_check_word T) hr (by decide) rfl (pa_cons (pv 2) pa_nil)))
      (pss_cons (ps_if (pt_not (pt_val (C8.pe_c (c_good_price T) hr (by decide) rfl (pa_cons (pv 3) pa_nil)))) (pss_one ps_never)
      pss_nil)
      (pss_cons (ps_if (pt_cmpR op_eq (pv 2) pe_str (nomark _)) (pss_one (ps_ret (C8.pe_mk (mk_Prices T) hr (by decide) rfl (pa_cons (pe_fld (pv 0) rfl) (pa_cons (C8.pe_c (c_replaced T) hr (by decide) rfl (pa_cons (pe_fld (pv 0) rfl) (pa_cons (pv 1) (pa_cons (pv 3) pa_nil)))) (pa_cons (pe_fld (pv 0) rfl) pa_nil))))))
      pss_nil)
      (pss_one (ps_ret (C8.pe_mk (mk_Prices T) hr (by decide) rfl (pa_cons (pe_fld (pv 0) rfl) (pa_cons (pe_fld (pv 0) rfl) (pa_cons (C8.pe_c (c_replaced T) hr (by decide) rfl (pa_cons (pe_fld (pv 0) rfl) (pa_cons (pv 1) (pa_cons (pv 3) pa_nil)))) pa_nil)))))))))), ?_⟩
  -- slots: 0:self 1:gate 2:word 3:price
  obtain ⟨x, y, z, u, rfl, W, sv, bk, g, b, o, hpr, wok, rfl, rfl, rfl, hg, ho, osv, obk, q⟩ := h
  obtain ⟨p, dx, w', ts, tb, rfl, hp, hw, hs, hb, ls, lb⟩ := hpr
  have lG := wok.lG
  refine ⟨_, rfl, p, _, dx, _, _, rfl, hp, T.c_Prices, T.n_Prices_web, rfl, _, rfl, _, _, rfl, W.n, W.ps, W.o, W.ex, (g : Int), hw, rfl, ⟨by omega, by show (g : Int) < (W.G.length : Nat); omega⟩, ?_⟩
  refine ⟨_, rfl, _, rfl, b, rfl, _, rfl, _, rfl, o, rfl, ho, true, rfl, iteF ?_⟩
  refine ⟨_, rfl, rfl, _, rfl, ?_⟩
  show if decide (V.str (wd b) = V.str "save") = true then _ else _
  rw [wd_save]
  cases b with
  | true =>
    refine iteT ⟨_, rfl, p, _, dx, _, _, rfl, hp, T.c_Prices, T.n_Prices_web, rfl, _, rfl, p, _, dx, _, _, rfl, hp, T.c_Prices, T.n_Prices_saves, rfl, _, rfl, _, rfl, _, _, _, rfl, ts, sv, g, o, rfl, rfl, rfl, hs, by omega, by omega, fun t H1 x1 ht => ?_⟩
    refine ⟨_, rfl, p, _, dx, _, _, rfl, x1 _ _ hp, T.c_Prices, T.n_Prices_backs, rfl, ?_⟩
    exact pr_mk (hw.ext x1) (.inr ht) (.inr (hb.ext x1)) (by rw [List.length_set]; exact ls) lb (okp_set osv ho g) obk fun x' H' x2 h => q x' H' (x1.trans x2) h
  | false =>
    refine iteF ⟨_, rfl, p, _, dx, _, _, rfl, hp, T.c_Prices, T.n_Prices_web, rfl, _, rfl, p, _, dx, _, _, rfl, hp, T.c_Prices, T.n_Prices_saves, rfl, _, rfl, p, _, dx, _, _, rfl, hp, T.c_Prices, T.n_Prices_backs, rfl, _, rfl, _, rfl, _, _, _, rfl, tb, bk, g, o, rfl, rfl, rfl, hb, by omega, by omega, fun t H1 x1 ht => ?_⟩
    exact pr_mk (hw.ext x1) (.inr (hs.ext x1)) (.inr ht) ls (by rw [List.length_set]; exact lb) osv (okp_set obk ho g) fun x' H' x2 h => q x' H' (x1.trans x2) h
end
end Sv
namespace Sv
open PySem PySem.Spec PyProof.Rows L2
/-! ### arcs -/
structure A2 {α β : Type} (R : α → β → Prop) (vs : List α) (xs : List β) : Prop where
  len : vs.length = xs.length
  at_ : ∀ (i : Nat) v x, vs[i]? = some v → xs[i]? = some x → R v x
section
variable {α β : Type} {R R' : α → β → Prop} {vs ws : List α} {xs ys : List β}
theorem A2.nil : A2 R [] [] := ⟨rfl, fun i v x h => by simp at h⟩
theorem A2.app (h : A2 R vs xs) (g : A2 R ws ys) : A2 R (vs ++ ws) (xs ++ ys) := by
  refine ⟨by rw [List.length_append, List.length_append, h.len, g.len], fun i v x hv hx => ?_⟩
  rcases Nat.lt_or_ge i vs.length with c | c
  · rw [List.getElem?_append_left c] at hv
    rw [List.getElem?_append_left (h.len ▸ c)] at hx
    exact h.at_ i v x hv hx
  · rw [List.getElem?_append_right c] at hv
    rw [List.getElem?_append_right (h.len ▸ c), ← h.len] at hx
    exact g.at_ _ v x hv hx
theorem A2.one {v : α} {x : β} (h : R v x) : A2 R [v] [x] := by
  refine ⟨rfl, fun i v' x' hv hx => ?_⟩
  cases i with
  | zero =>
    cases hv
    cases hx
    exact h
  | succ i => simp at hv
theorem A2.two {v v' : α} {x x' : β} (h : R v x) (h' : R v' x') : A2 R [v, v'] [x, x'] := (A2.one h).app (A2.one h')
theorem A2.get {i : Nat} {v : α} (h : A2 R vs xs) (e : vs[i]? = some v) : ∃ x, xs[i]? = some x ∧ R v x := by
  have hl := (List.getElem?_eq_some_iff.mp e).1
  rw [h.len] at hl
  exact ⟨xs[i], List.getElem?_eq_getElem hl, h.at_ i v _ e (List.getElem?_eq_getElem hl)⟩
theorem A2.imp (h : A2 R vs xs) (k : ∀ v x, R v x → R' v x) : A2 R' vs xs := ⟨h.len, fun i v x a b => k v x (h.at_ i v x a b)⟩
end
abbrev Ak := Nat × Bool
def aK (x : Ak) : List Key := [Sum.inl (x.1 : Int), Sum.inr (wd x.2)]
theorem aK_v (x : Ak) : (aK x).map kV = [.int (x.1 : Int), .str (wd x.2)] := rfl
theorem wd_inj {a b : Bool} (h : wd a = wd b) : a = b := by
  cases a <;> cases b
  · rfl
  · exact absurd h (by decide +kernel)
  · exact absurd h (by decide +kernel)
  · rfl
theorem aK_inj {x y : Ak} (h : aK x = aK y) : x = y := by
  unfold aK at h
  simp only [List.cons.injEq, Sum.inl.injEq, Sum.inr.injEq, and_true] at h
  exact Prod.ext (by omega) (wd_inj h.2)
def ArcV (H : Hp) (v : V) (x : Ak) : Prop := ∃ t, v = .ref t ∧ H t = some (.tup ((aK x).map kV))
theorem ArcV.ext {H H' : Hp} {v : V} {x : Ak} (h : ArcV H v x) (e : Ext H H') : ArcV H' v x := by
  obtain ⟨t, a, b⟩ := h
  exact ⟨t, a, e _ _ b⟩
/-- a table by arcs -/
def dA (As : List Ak) (F : Ak → V) : List (List Key × V) := As.map fun x => (aK x, F x)
theorem dA_len (As : List Ak) (F : Ak → V) : (dA As F).length = As.length := List.length_map _
theorem dA_val (As : List Ak) (F : Ak → V) (x : Ak) : valV (dA As F) (aK x) = if x ∈ As then some (F x) else none := by
  induction As with
  | nil => rfl
  | cons y ys ih =>
    by_cases h : y = x
    · subst h
      rw [if_pos List.mem_cons_self]
      exact valV_pos (p := (aK y, F y)) rfl
    · rw [show dA (y :: ys) F = (aK y, F y) :: dA ys F from rfl, valV_neg (p := (aK y, F y)) (fun z => h (aK_inj z)), ih]
      by_cases q : x ∈ ys
      · rw [if_pos q, if_pos (List.mem_cons_of_mem _ q)]
      · rw [if_neg q, if_neg fun z => (List.mem_cons.mp z).elim (fun z => h z.symm) q]
theorem dA_any (As : List Ak) (F : Ak → V) (x : Ak) : ((dA As F).any fun kv => decide (kv.1 = aK x)) = decide (x ∈ As) := by
  rw [valV_any, dA_val]
  by_cases h : x ∈ As
  · rw [if_pos h, decide_eq_true h]
    rfl
  · rw [if_neg h, decide_eq_false h]
    rfl
theorem dA_new {As : List Ak} {F : Ak → V} {x : Ak} {v : V} (h : ¬ x ∈ As) : putK (dA As F) (aK x) v = dA (As ++ [x]) (fun y => if y = x then v else F y) := by
  unfold putK
  rw [dA_any, decide_eq_false h, if_neg Bool.false_ne_true]
  unfold dA
  rw [List.map_append, List.map_cons, List.map_nil]
  have e : (As.map fun y => (aK y, F y)) = As.map fun y => (aK y, if y = x then v else F y) := List.map_congr_left fun y hy => by
    have hne : ¬ y = x := fun z => h (by rw [← z]; exact hy)
    simp only [if_neg hne]
  rw [e]
  simp
theorem dA_set {As : List Ak} {F : Ak → V} {x : Ak} {v : V} (h : x ∈ As) : putK (dA As F) (aK x) v = dA As (fun y => if y = x then v else F y) := by
  unfold putK
  rw [dA_any, decide_eq_true h, if_pos rfl]
  unfold dA
  rw [List.map_map]
  refine List.map_congr_left fun y hy => ?_
  show (if aK y = aK x then (aK y, v) else (aK y, F y)) = (aK y, if y = x then v else F y)
  by_cases q : y = x
  · rw [if_pos (by rw [q]), if_pos q]
  · rw [if_neg (fun z => q (aK_inj z)), if_neg q]
theorem dA_congr {As : List Ak} {F G : Ak → V} (h : ∀ x ∈ As, F x = G x) : dA As F = dA As G := List.map_congr_left fun x hx => by rw [h x hx]
def tipF (G : Gt) (x : Ak) : Int × Int := if x.2 then ((G.getD x.1 (0, 0)).2, (G.getD x.1 (0, 0)).1) else G.getD x.1 (0, 0)
def arcs1 (G : Gt) (g : Nat) : List Ak := if (G.getD g (0, 0)).1 = (G.getD g (0, 0)).2 then [] else [(g, false), (g, true)]
def arcsF (G : Gt) : List Ak := (List.range G.length).flatMap (arcs1 G)
theorem arcs1_mem {G : Gt} {g : Nat} {x : Ak} (h : x ∈ arcs1 G g) : x.1 = g := by
  unfold arcs1 at h
  split at h
  · cases h
  · simp at h
    rcases h with rfl | rfl <;> rfl
theorem arcs_upto (G : Gt) (n : Nat) : ((List.range n).flatMap (arcs1 G)).Nodup ∧ ∀ x ∈ (List.range n).flatMap (arcs1 G), x.1 < n := by
  induction n with
  | zero => exact ⟨List.nodup_nil, fun x h => by cases h⟩
  | succ n ih =>
    rw [List.range_succ, List.flatMap_append, List.flatMap_singleton]
    refine ⟨?_, fun x hx => ?_⟩
    · rw [List.nodup_append]
      refine ⟨ih.1, ?_, fun a ha b hb => ?_⟩
      · unfold arcs1
        split
        · exact List.nodup_nil
        · simp
      · intro z
        have := ih.2 a ha
        have := arcs1_mem hb
        rw [← z] at this
        omega
    · rcases List.mem_append.mp hx with h | h
      · have := ih.2 x h
        omega
      · rw [arcs1_mem h]
        omega
theorem arcsF_nodup (G : Gt) : (arcsF G).Nodup := (arcs_upto G _).1
theorem arcsF_lt {G : Gt} {x : Ak} (h : x ∈ arcsF G) : x.1 < G.length := (arcs_upto G _).2 x h
theorem arcs_uptolen (G : Gt) (n : Nat) : ((List.range n).flatMap (arcs1 G)).length ≤ 2 * n := by
  induction n with
  | zero => exact Nat.le_refl _
  | succ n ih =>
    rw [List.range_succ, List.flatMap_append, List.flatMap_singleton, List.length_append]
    have : (arcs1 G n).length ≤ 2 := by
      unfold arcs1
      split <;> simp
    omega
theorem arcsF_len (G : Gt) : (arcsF G).length ≤ 2 * G.length := arcs_uptolen G _
theorem ArcV.put {H : Hp} {L : Addr} {xs : List V} {o : HO} {v : V} {x : Ak} (e : H L = some (.lst xs)) (h : ArcV H v x) : ArcV (upd H L o) v x := by
  obtain ⟨t, a, b⟩ := h
  exact ⟨t, a, by rw [upd_ne (ne_of b e (by intro z; cases z))]; exact b⟩
def spEndsArc (K : PySem.W.Frag) : Sp := sp2 fun x y H Q => ∃ W t b, IsW K H x W ∧ W.Ok ∧ y = .ref t ∧ SqT K H t [.int (b.1 : Nat), .str (wd b.2)] ∧ b.1 < W.G.length ∧
  ∀ t' H', Ext H H' → H' t' = some (.tup [.int (tipF W.G b).1, .int (tipF W.G b).2]) → Q (.ref t') H'
def spArcs (K : PySem.W.Frag) : Sp := sp1 fun x H Q => ∃ W, IsW K H x W ∧ W.Ok ∧ ∀ t vs H', Ext H H' → SqT K H' t vs → A2 (ArcV H') vs (arcsF W.G) → Q (.ref t) H'
def spCheckPl (K : PySem.W.Frag) : Sp := sp2 fun x y H Q => ∃ W ns, IsW K H x W ∧ IsLot K H y ns ∧ (∀ k ∈ ns, k < W.n) ∧ Q .non H
section
variable {P : Program} {w : World} {K : PySem.W.Frag} {mg : PySem.Str → Option Value} {base : Heap}
theorem sc_check_places : FnScope ["web", "lot", "place"] ["web", "lot"] (defScope s_check_places) := ⟨rfl, rfl, rfl, by decide +kernel, rfl, by decide +kernel, by decide +kernel⟩
theorem c_check_places (T : Txt K mg) : C8.Cal P w K mg base 1 "check_places" (spCheckPl K) [] := by
  obtain ⟨fd, F⟩ := T.f_check_places
  refine calN F T.g_check_places sc_check_places (F.bindsN fun _ _ _ _ _ _ us hl => match us, hl with | [_, _], _ => rfl) len2 (fun cdv A outer s H vs Q E hr h => ?_)
  refine ⟨_, (pss_one (ps_for PassesOwn.never rfl (pi_tup (pe_fld (pv 1) rfl)) (pg_name (i := 2) sc_check_places.nd rfl (by first | exact Or.inl rfl | exact Or.inr rfl))
      (pss_one (ps_if (pt_cmpR op_ge (pv 2) (pe_fld (pv 0) rfl) (nomark _)) (pss_one ps_never)
      pss_nil)))), ?_⟩
  -- slots: 0:web 1:lot 2:place
  obtain ⟨x, y, rfl, W, ns, ⟨p, dx, te, tx, rfl, hp, _⟩, ⟨p', dx', t, rfl, hp', ht, _⟩, hn, q⟩ := h
  refine ⟨_, rfl, p', _, dx', _, _, rfl, hp', T.c_Lot, T.n_Lot_places, rfl, t, rfl, ⟨_, ht⟩, for_tup (K := K) (a := t) (xs := ns.map V.int) (fun i σ H' => H' = H ∧ ∃ v, σ = [some (.ref p), some (.ref p'), v]) ⟨rfl, _, rfl⟩ (fun i σ H' _ z => by rw [z.1]; exact ht) ?_ ?_⟩
  · rintro i v σ H2 hi ⟨rfl, v4, rfl⟩
    obtain ⟨k, hk, rfl⟩ := map_at hi
    have := hn k (List.mem_of_getElem? hk)
    refine ⟨_, rfl, _, rfl, p, _, dx, _, _, rfl, hp, T.c_Web, T.n_Web_places, rfl, _, _, rfl, rfl, false, congrArg V.bl (decide_eq_false (by omega)), iteF ⟨rfl, _, rfl⟩⟩
  · rintro σ H2 ⟨rfl, v4, rfl⟩
    exact q
theorem sc_ends_of_arc : FnScope ["web", "arc", "gate", "word", "before", "behind"] ["web", "arc"] (defScope s_ends_of_arc) := ⟨rfl, rfl, rfl, by decide +kernel, rfl, by decide +kernel, by decide +kernel⟩
theorem c_ends_of_arc (T : Txt K mg) : C8.Cal P w K mg base 5 "ends_of_arc" (spEndsArc K) [] := by
  obtain ⟨fd, F⟩ := T.f_ends_of_arc
  refine calN F T.g_ends_of_arc sc_ends_of_arc (F.bindsN fun _ _ _ _ _ _ us hl => match us, hl with | [_, _], _ => rfl) len2 (fun cdv A outer s H vs Q E hr h => ?_)
  refine ⟨_, (pss_cons (ps_asg (pv 1) (pg_tup (by rfl) (pgs_cons (pg_name (i := 2) sc_ends_of_arc.nd rfl (by first | exact Or.inl rfl | exact Or.inr rfl)) (pgs_cons (pg_name (i := 3) sc_ends_of_arc.nd rfl (by first | exact Or.inl rfl | exact Or.inr rfl)) pgs_nil))))
      (pss_cons (ps_asg (C8.pe_mt (mt_Web_ends T) hr (by decide) (pv 0) (pa_cons (pv 2) pa_nil)) (pg_tup (by rfl) (pgs_cons (pg_name (i := 4) sc_ends_of_arc.nd rfl (by first | exact Or.inl rfl | exact Or.inr rfl)) (pgs_cons (pg_name (i := 5) sc_ends_of_arc.nd rfl (by first | exact Or.inl rfl | exact Or.inr rfl)) pgs_nil))))
      (pss_one (ps_ret (pe_ifExp (pt_cmpR op_eq (pv 3) pe_str (nomark _)) (pe_tup (pa_cons (pv 5) (pa_cons (pv 4) pa_nil))) (pe_tup (pa_cons (pv 4) (pa_cons (pv 5) pa_nil)))))))), ?_⟩
  -- slots: 0:web 1:arc 2:gate 3:word 4:before 5:behind
  obtain ⟨x, y, rfl, W, t, b, hw, wok, rfl, ht, hb, q⟩ := h
  obtain ⟨p, dx, te, tx, rfl, hp, _⟩ := id hw
  have hg : W.G[b.1]? = some (W.G.getD b.1 (0, 0)) := by
    rw [List.getD_eq_getElem?_getD, List.getElem?_eq_getElem hb]
    rfl
  have lp := wok.lp
  have le := wok.le
  refine ⟨_, rfl, t, _, rfl, ht, rfl, _, _, rfl, _, _, rfl, rfl, ?_⟩
  refine ⟨_, rfl, p, dx, _, rfl, hp, rfl, _, rfl, _, _, rfl, W.n, W.ps, W.o, W.ex, b.1, W.G.getD b.1 (0, 0), hw, rfl, hg, by omega, by omega, fun t' H1 x1 ht' => ?_⟩
  refine ⟨t', _, rfl, ht', rfl, _, _, rfl, _, _, rfl, rfl, ?_⟩
  refine ⟨_, rfl, rfl, _, rfl, ?_⟩
  show if decide (V.str (wd b.2) = V.str "save") = true then _ else _
  rw [wd_save]
  have ef : tipF W.G b = if b.2 then ((W.G.getD b.1 (0, 0)).2, (W.G.getD b.1 (0, 0)).1) else W.G.getD b.1 (0, 0) := rfl
  cases hb2 : b.2 with
  | true =>
    rw [hb2] at ef
    refine iteT ⟨_, rfl, _, rfl, by show 2 ≤ sizeLine; decide, fun m hm => q m _ (x1.trans (Ext.upd hm)) ?_⟩
    rw [upd_same, ef]
    rfl
  | false =>
    rw [hb2] at ef
    refine iteF ⟨_, rfl, _, rfl, by show 2 ≤ sizeLine; decide, fun m hm => q m _ (x1.trans (Ext.upd hm)) ?_⟩
    rw [upd_same, ef]
    rfl
theorem sc_arcs : FnScope ["web", "found", "gate", "before", "behind"] ["web"] (defScope s_arcs) := ⟨rfl, rfl, rfl, by decide +kernel, rfl, by decide +kernel, by decide +kernel⟩
theorem c_arcs (T : Txt K mg) : C8.Cal P w K mg base 5 "arcs" (spArcs K) [] := by
  obtain ⟨fd, F⟩ := T.f_arcs
  refine calN F T.g_arcs sc_arcs (F.bindsN fun _ _ _ _ _ _ us hl => match us, hl with | [_], _ => rfl) len1 (fun cdv A outer s H vs Q E hr h => ?_)
  refine ⟨_, (pss_cons (ps_set (i := 1) sc_arcs.nd rfl (by first | exact Or.inl rfl | exact Or.inr rfl) (pe_lst pa_nil))
      (pss_cons (ps_for PassesOwn.never rfl (pi_range1 (by rfl) T.b_range (pa_cons (pe_gates T hr (pv 0)) pa_nil)) (pg_name (i := 2) sc_arcs.nd rfl (by first | exact Or.inl rfl | exact Or.inr rfl))
      (pss_cons (ps_asg (C8.pe_mt (mt_Web_ends T) hr (by decide) (pv 0) (pa_cons (pv 2) pa_nil)) (pg_tup (by rfl) (pgs_cons (pg_name (i := 3) sc_arcs.nd rfl (by first | exact Or.inl rfl | exact Or.inr rfl)) (pgs_cons (pg_name (i := 4) sc_arcs.nd rfl (by first | exact Or.inl rfl | exact Or.inr rfl)) pgs_nil))))
      (pss_one (ps_if (pt_cmpR op_ne (pv 3) (pv 4) (nomark _)) (pss_one (ps_expr (pe_bm PySem.F.plainAttrs_list PySem.F.slot_list_extend PySem.F.type_list_extend mt_extend (pv 1) (pa_cons (pe_lst (pa_cons (pe_tup (pa_cons (pv 2) (pa_cons pe_str pa_nil))) (pa_cons (pe_tup (pa_cons (pv 2) (pa_cons pe_str pa_nil))) pa_nil))) pa_nil))))
      pss_nil))))
      (pss_one (ps_ret (pe_callTy call_tuple_of (by rfl) T.b_tuple (by decide +kernel) (pa_cons (pv 1) pa_nil)))))), ?_⟩
  -- slots: 0:web 1:found 2:gate 3:before 4:behind
  obtain ⟨x, rfl, W, hw, wok, q⟩ := h
  obtain ⟨p, dx, te, tx, rfl, hp, _⟩ := id hw
  have lG := wok.lG
  have lp := wok.lp
  have le := wok.le
  have lin : 2000 < sizeLine := by rw [sizeLine_eq]; omega
  refine ⟨Nat.zero_le _, fun L hL => ?_⟩
  have x1 : Ext H (upd H L (.lst [])) := Ext.upd hL
  refine ⟨_, rfl, read_gates (hw.ext x1) ⟨_, rfl, by show -(2 ^ 62) ≤ ((W.G.length : Nat) : Int); omega, by show ((W.G.length : Nat) : Int) < 2 ^ 62; omega, ?_⟩⟩
  refine for_range (n := W.G.length) (fun i σ H' => ∃ vs v2 v3 v4, σ = [some (.ref p), some (.ref L), v2, v3, v4] ∧ Ext H H' ∧ H' L = some (.lst vs) ∧ A2 (ArcV H') vs ((List.range i).flatMap (arcs1 W.G)))
    ⟨[], _, _, _, rfl, x1, upd_same, .nil⟩ ?_ ?_
  · rintro i σ H' hi ⟨vs, v2, v3, v4, rfl, x2, hl, av⟩
    have hg : W.G[i]? = some (W.G.getD i (0, 0)) := by
      rw [List.getD_eq_getElem?_getD, List.getElem?_eq_getElem hi]
      rfl
    have lvs : vs.length ≤ 300 := by
      have h1 := av.len
      have h2 := arcs_uptolen W.G i
      omega
    refine ⟨_, rfl, p, dx, _, rfl, x2 _ _ hp, rfl, _, rfl, _, _, rfl, W.n, W.ps, W.o, W.ex, i, W.G.getD i (0, 0), hw.ext x2, by rw [Int.zero_add], hg, by omega, by omega, fun t' H1 x3 ht' => ?_⟩
    refine ⟨t', _, rfl, ht', rfl, _, _, rfl, _, _, rfl, rfl, ?_⟩
    have hl1 := x3 _ _ hl
    have av1 : A2 (ArcV H1) vs ((List.range i).flatMap (arcs1 W.G)) := av.imp fun v x z => z.ext x3
    have x4 := x2.trans x3
    refine ⟨_, rfl, _, rfl, rfl, _, rfl, ?_⟩
    rw [List.range_succ, List.flatMap_append, List.flatMap_singleton]
    by_cases eq : (W.G.getD i (0, 0)).1 = (W.G.getD i (0, 0)).2
    · have e1 : arcs1 W.G i = [] := if_pos eq
      rw [e1, List.append_nil, decide_eq_true (show V.int (W.G.getD i (0, 0)).1 = V.int (W.G.getD i (0, 0)).2 by rw [eq])]
      exact iteF ⟨vs, _, _, _, rfl, x4, hl1, av1⟩
    · have e1 : arcs1 W.G i = [(i, false), (i, true)] := if_neg eq
      rw [e1, decide_eq_false (show ¬ V.int (W.G.getD i (0, 0)).1 = V.int (W.G.getD i (0, 0)).2 from fun z => eq (V.int.inj z))]
      refine iteT ⟨_, rfl, .inl ⟨rfl, _, .of hl1⟩, _, rfl, by show 2 ≤ sizeLine; decide, fun m1 hm1 => ⟨_, rfl, by show 2 ≤ sizeLine; decide, fun m2 hm2 => ⟨by show 2 ≤ sizeLine; decide, fun l hl2 => ?_⟩⟩⟩
      have y1 : Ext H1 (upd H1 m1 (.tup [.int (0 + (i : Int)), .str "back"])) := Ext.upd hm1
      have y2 : Ext (upd H1 m1 (.tup [.int (0 + (i : Int)), .str "back"])) (upd (upd H1 m1 (.tup [.int (0 + (i : Int)), .str "back"])) m2 (.tup [.int (0 + (i : Int)), .str "save"])) := Ext.upd hm2
      have y3 := Ext.upd (o := .lst [.ref m1, .ref m2]) hl2
      have y := (y1.trans y2).trans y3
      have hlF := y _ _ hl1
      have eA : V.int (0 + (i : Int)) = V.int (i : Int) := by rw [Int.zero_add]
      have a1 : ArcV (upd (upd (upd H1 m1 (.tup [.int (0 + (i : Int)), .str "back"])) m2 (.tup [.int (0 + (i : Int)), .str "save"])) l (.lst [.ref m1, .ref m2])) (.ref m1) (i, false) := ⟨m1, rfl, y3 _ _ (y2 _ _ (by rw [upd_same, eA]; rfl))⟩
      have a2 : ArcV (upd (upd (upd H1 m1 (.tup [.int (0 + (i : Int)), .str "back"])) m2 (.tup [.int (0 + (i : Int)), .str "save"])) l (.lst [.ref m1, .ref m2])) (.ref m2) (i, true) := ⟨m2, rfl, y3 _ _ (by rw [upd_same, eA]; rfl)⟩
      refine ⟨L, l, vs, [.ref m1, .ref m2], rfl, rfl, hlF, upd_same, by show vs.length + 2 ≤ sizeLine; omega, vs ++ [.ref m1, .ref m2], _, _, _, rfl, (x4.trans y).put hL, upd_same, ?_⟩
      exact ((av1.imp fun v x z => z.ext y).app (A2.two a1 a2)).imp fun v x z => z.put hlF
  · rintro σ H' ⟨vs, v2, v3, v4, rfl, x2, hl, av⟩
    exact ⟨_, rfl, L, _, rfl, .inl ⟨.of hl, fun t ht => q t vs _ (x2.trans (Ext.upd ht)) (.of upd_same) (av.imp fun v x z => z.ext (Ext.upd ht))⟩⟩
end
end Sv
namespace Sv
open PySem PySem.Spec PyProof.Rows L2
/-! ### networks -/
structure ND where
  W : WD
  S : List Int
  sv : List (Option Int)
  bk : List (Option Int)
def ND.room (N : ND) (a : Ak) : Option Int := (if a.2 then N.sv else N.bk).getD a.1 none
def ND.tip (N : ND) (a : Ak) : Int × Int := tipF N.W.G a
def ND.As (N : ND) : List Ak := (arcsF N.W.G).filter fun a => !decide ((N.tip a).2 ∈ N.S) && !decide ((N.tip a).1 = -1)
theorem ND.nodup (N : ND) : N.As.Nodup := List.Pairwise.filter _ (arcsF_nodup _)
theorem ND.len (N : ND) (h : N.W.Ok) : N.As.length ≤ 282 := by
  have h1 : N.As.length ≤ (arcsF N.W.G).length := List.length_filter_le _ _
  have := arcsF_len N.W.G
  have := h.lG
  omega
structure ND.Ok (N : ND) : Prop where
  w : N.W.Ok
  ls : N.sv.length = N.W.G.length
  lb : N.bk.length = N.W.G.length
  os : ∀ o ∈ N.sv, OkP o
  ob : ∀ o ∈ N.bk, OkP o
  ss : ∀ k ∈ N.S, InR N.W.n k
  nd : N.S.Nodup
/-- tuples as they are -/
def Td (H H' : Hp) : Prop := ∀ a xs, H a = some (.tup xs) → H' a = some (.tup xs)
theorem Td.of {H H' : Hp} (e : Ext H H') : Td H H' := fun a xs h => e _ _ h
theorem Td.trans {H H1 H2 : Hp} (a : Td H H1) (b : Td H1 H2) : Td H H2 := fun c xs h => b c xs (a c xs h)
theorem Td.put {H : Hp} {L : Addr} {u o : HO} (e : H L = some u) (n : ∀ xs, u ≠ .tup xs) : Td H (upd H L o) := fun a xs h => by
  rw [upd_ne fun z => ?_]
  · exact h
  · rw [z, e] at h
    exact n xs (Option.some.inj h)
theorem ArcV.td {H H' : Hp} {v : V} {x : Ak} (h : ArcV H v x) (e : Td H H') : ArcV H' v x := by
  obtain ⟨t, a, b⟩ := h
  exact ⟨t, a, e _ _ b⟩
structure NetC (K : PySem.W.Frag) (H : Hp) (N : ND) (p dx ls lk dr dt dn : Addr) (tv : Ak → V) : Prop where
  ins : H p = some (.ins (cNet K) dx [("sources", .ref ls), ("sinks", .ref lk), ("places", .int N.W.n), ("rooms", .ref dr), ("tips", .ref dt), ("numbers", .ref dn)])
  src : SqL K H ls (N.S.map V.int)
  snk : SqL K H lk [.int (-1)]
  rooms : Rd H dr (.dT (dA N.As fun a => oV (N.room a)))
  tips : Rd H dt (.dT (dA N.As tv))
  tipv : ∀ a ∈ N.As, ∃ t, tv a = .ref t ∧ SqT K H t [.int (N.tip a).1, .int (N.tip a).2]
  ne1 : dn ≠ dr
  ne2 : dn ≠ dt
theorem NetC.le {K : PySem.W.Frag} {H H' : Hp} {N : ND} {p dx ls lk dr dt dn : Addr} {tv : Ak → V} (h : NetC K H N p dx ls lk dr dt dn tv) (e : Le H H') : NetC K H' N p dx ls lk dr dt dn tv :=
  ⟨e.ins _ _ _ _ h.ins, h.src.le e, h.snk.le e, e.rd _ _ True.intro h.rooms, e.rd _ _ True.intro h.tips, fun a ha => (h.tipv a ha).imp fun t z => ⟨z.1, z.2.le e⟩, h.ne1, h.ne2⟩
theorem NetC.ext {K : PySem.W.Frag} {H H' : Hp} {N : ND} {p dx ls lk dr dt dn : Addr} {tv : Ak → V} (h : NetC K H N p dx ls lk dr dt dn tv) (e : Ext H H') : NetC K H' N p dx ls lk dr dt dn tv := h.le (.of e)
def numV (N : ND) (f : Ak → Int) : HO := .dT (dA N.As fun a => .int (f a))
def freeF (N : ND) (f : Ak → Int) (a : Ak) : Option Int := (N.room a).map fun r => r - f a
section
variable {g : TG} {tb : TS} {D : Ends} {σ : L2.St} {H : Hp} {d : Addr} {o : Obj} {As : List Ak} {F : Ak → V}
theorem for_keys (Pv : Nat → L2.St → Hp → Prop) (h0 : Pv 0 σ H) (hl : ∀ i σ H', Pv i σ H' → H' d = some (.frz o (.dT (dA As F))))
    (hs : ∀ i a q σ H, As[i]? = some a → Pv i σ H → H q = some (.tup ((aK a).map kV)) → g (.ref q) σ H fun σ2 H2 => tb { D with nx := Pv (i + 1), ct := Pv (i + 1), bk := D.nx } σ2 H2) (hd : ∀ σ H, Pv As.length σ H → D.nx σ H) :
    ∃ W : Nat → Nat → L2.St → Hp → Prop, (∃ m, W 0 m σ H) ∧ ∀ i m σ H, W i m σ H →
      ((Itkt d o (dA As F)).stop i H ∧ D.nx σ H) ∨ ((Itkt d o (dA As F)).go i H ∧ ∃ N : L2.St → Hp → Prop, (∀ σ' H', N σ' H' → ∃ m', m' < m ∧ W (i + 1) m' σ' H') ∧ ∀ x H', (Itkt d o (dA As F)).yld i H x H' → g x σ H' fun σ2 H2 => tb { D with nx := N, ct := N, bk := D.nx } σ2 H2) := by
  refine ⟨fun i m σ H => m = As.length - i ∧ i ≤ As.length ∧ Pv i σ H, ⟨As.length, rfl, Nat.zero_le _, h0⟩, ?_⟩
  rintro i m σ H1 ⟨rfl, hi, p⟩
  have w1 := hl _ _ _ p
  rcases Nat.lt_or_ge i As.length with c | c
  · have hx : As[i]? = some As[i] := List.getElem?_eq_getElem c
    refine .inr ⟨⟨w1, by rw [dA_len]; exact c⟩, Pv (i + 1), fun σ' H' p' => ⟨As.length - (i + 1), by omega, rfl, c, p'⟩, fun x H' y => ?_⟩
    obtain ⟨rfl, k, v, q, e1, rfl, e2⟩ := y
    unfold dA at e1
    rw [List.getElem?_map, hx] at e1
    cases e1
    exact hs i _ q σ _ hx p e2
  · obtain rfl : i = As.length := Nat.le_antisymm hi c
    exact .inl ⟨⟨w1, by rw [dA_len]; exact c⟩, hd _ _ p⟩
end
/-- a comprehension over a locked dict's keys -/
theorem lc_keys {g : TG} {tt : TT} {te : TE} {vs : List Nat} {σ : L2.St} {H1 : Hp} {D : Addr} {Qd : Hp → Prop} {d : Addr} {o : Obj} {As : List Ak} {F : Ak → V} (Pv : Nat → Hp → Prop) (h0 : Pv 0 (upd H1 D (.lst []))) (hl : ∀ i H', Pv i H' → H' d = some (.frz o (.dT (dA As F))))
    (hs : ∀ i a q H, As[i]? = some a → Pv i H → H q = some (.tup ((aK a).map kV)) → g (.ref q) (wipe σ vs) H fun σ2 H2 => wipe σ2 vs = wipe σ vs ∧ tt σ2 H2 fun b H3 =>
      if b = true then te σ2 H3 fun y H4 => ∃ acc, H4 D = some (.lst acc) ∧ acc.length < sizeLine ∧ Pv (i + 1) (upd H4 D (.lst (acc ++ [y]))) else Pv (i + 1) H3) (hd : ∀ H, Pv As.length H → Qd H) :
    ∃ W : Nat → Nat → Hp → Prop, (∃ m, W 0 m (upd H1 D (.lst []))) ∧ ∀ i m H, W i m H →
      ((Itkt d o (dA As F)).stop i H ∧ Qd H) ∨ ((Itkt d o (dA As F)).go i H ∧ ∃ Nx : Hp → Prop, (∀ H', Nx H' → ∃ m', m' < m ∧ W (i + 1) m' H') ∧ ∀ x H', (Itkt d o (dA As F)).yld i H x H' → g x (wipe σ vs) H' fun σ2 H2 => wipe σ2 vs = wipe σ vs ∧ tt σ2 H2 fun b H3 =>
        if b = true then te σ2 H3 fun y H4 => ∃ acc, H4 D = some (.lst acc) ∧ acc.length < sizeLine ∧ Nx (upd H4 D (.lst (acc ++ [y]))) else Nx H3) := by
  refine ⟨fun i m H => m = As.length - i ∧ i ≤ As.length ∧ Pv i H, ⟨As.length, rfl, Nat.zero_le _, h0⟩, ?_⟩
  rintro i m H2 ⟨rfl, hi, p⟩
  have w1 := hl _ _ p
  rcases Nat.lt_or_ge i As.length with c | c
  · have hx : As[i]? = some As[i] := List.getElem?_eq_getElem c
    refine .inr ⟨⟨w1, by rw [dA_len]; exact c⟩, Pv (i + 1), fun H' p' => ⟨As.length - (i + 1), by omega, rfl, c, p'⟩, fun x H' y => ?_⟩
    obtain ⟨rfl, k, v, q, e1, rfl, e2⟩ := y
    unfold dA at e1
    rw [List.getElem?_map, hx] at e1
    cases e1
    exact hs i _ q _ hx p e2
  · obtain rfl : i = As.length := Nat.le_antisymm hi c
    exact .inl ⟨⟨w1, by rw [dA_len]; exact c⟩, hd _ p⟩
/-- a lock taken, then given back -/
theorem unlock_ext {H H' : Hp} {d : Addr} {u : HO} {od : Obj} (e : H d = some u) (x : Ext (upd H d (.frz od u)) H') : Ext H (upd H' d u) := fun a v h => by
  by_cases q : a = d
  · rw [q, upd_same]
    rw [q, e] at h
    exact h
  · rw [upd_ne q]
    exact x _ _ (by rw [upd_ne q]; exact h)
theorem lock_new {H : Hp} {d L : Addr} {u o : HO} {od : Obj} (hL : H L = none) (hd : H d = some u) : Ext (upd H d (.frz od u)) (upd (upd H L o) d (.frz od u)) := fun a v h => by
  by_cases q : a = d
  · rw [q, upd_same] at h ⊢
    exact h
  · rw [upd_ne q] at h ⊢
    rw [upd_ne (ne_of_none h hL)]
    exact h
/-! ### free, steps_from -/
abbrev Stp := Ak × Int × Int
def step1 (N : ND) (f : Ak → Int) (place : Int) (a : Ak) : List Stp :=
  (if (N.tip a).1 = place ∧ freeF N f a ≠ some 0 then [(a, 1, (N.tip a).2)] else []) ++ (if (N.tip a).2 = place ∧ 0 < f a then [(a, -1, (N.tip a).1)] else [])
def stepsF (N : ND) (f : Ak → Int) (place : Int) : List Stp := N.As.flatMap (step1 N f place)
def StepV (H : Hp) (v : V) (s : Stp) : Prop := ∃ m b, v = .ref m ∧ H m = some (.tup [.ref b, .int s.2.1, .int s.2.2]) ∧ H b = some (.tup ((aK s.1).map kV))
theorem StepV.td {H H' : Hp} {v : V} {s : Stp} (h : StepV H v s) (e : Td H H') : StepV H' v s := by
  obtain ⟨m, b, a1, a2, a3⟩ := h
  exact ⟨m, b, a1, e _ _ a2, e _ _ a3⟩
theorem free_ne (o : Option Int) : (!PyData.eqv (oI o) (.int 0)) = decide (o ≠ some 0) := by
  cases o with
  | none => rfl
  | some i =>
    show (!(i == 0)) = _
    by_cases h : i = 0
    · simp [h]
    · simp [h]
theorem shp_oI (o : Option Int) : SeqAt.shaped (oI o) = true := (shp.o o 0).ed (by omega)
def spFree (K : PySem.W.Frag) : Sp := sp2 fun x y H Q => ∃ N p dx ls lk dr dt dn tv f t a, x = .ref p ∧ y = .ref t ∧ NetC K H N p dx ls lk dr dt dn tv ∧ H dn = some (numV N f) ∧ H t = some (.tup ((aK a).map kV)) ∧ a ∈ N.As ∧ Q (oV (freeF N f a)) H
def spSteps (K : PySem.W.Frag) : Sp := sp2 fun x y H Q => ∃ N p dx ls lk dr dt dn tv f k, x = .ref p ∧ y = .int k ∧ N.W.Ok ∧ NetC K H N p dx ls lk dr dt dn tv ∧ H dn = some (numV N f) ∧ H dr = some (.dT (dA N.As fun a => oV (N.room a))) ∧
  ∀ L vs H', H L = none → Ext H H' → H' L = some (.lst vs) → A2 (StepV H') vs (stepsF N f k) → Q (.ref L) H'
theorem steps_len (N : ND) (f : Ak → Int) (k : Int) (l : List Ak) : (l.flatMap (step1 N f k)).length ≤ 2 * l.length := by
  induction l with
  | nil => exact Nat.le_refl _
  | cons a l ih =>
    rw [List.flatMap_cons, List.length_append, List.length_cons]
    have : (step1 N f k a).length ≤ 2 := by
      unfold step1
      split <;> split <;> simp
    omega
section
variable {P : Program} {w : World} {K : PySem.W.Frag} {mg : PySem.Str → Option Value} {base : Heap}
theorem sc_Network_free : FnScope ["self", "arc", "room"] ["self", "arc"] (defScope s_Network_free) := ⟨rfl, rfl, rfl, by decide +kernel, rfl, by decide +kernel, by decide +kernel⟩
theorem mt_Network_free (T : Txt K mg) : C8.Met P w K mg base 1 (He.ga K "Network") "free" (spFree K) [] := by
  obtain ⟨fd, F⟩ := T.f_Network_free
  refine metN T.c_Network T.m_Network_free F sc_Network_free (F.bindsN fun _ _ _ _ _ _ us hl => match us, hl with | [_, _], _ => rfl) len2 (fun cdv A outer s H vs Q E hr h => ?_)
  refine ⟨_, (pss_cons (ps_set (i := 2) sc_Network_free.nd rfl (by first | exact Or.inl rfl | exact Or.inr rfl) (pe_dget (hu_of hr) (pe_fld (pv 0) rfl) (pv 1) (fun _ _ => rfl)))
      (pss_one (ps_ret (pe_ifExp (pt_cmpR op_isN (pv 2) pe_non (nomark _)) pe_non (pe_op op_sub (pv 2) (pe_dget (hu_of hr) (pe_fld (pv 0) rfl) (pv 1) (fun _ _ => rfl))))))), ?_⟩
  -- slots: 0:self 1:arc 2:room
  obtain ⟨x, y, rfl, N, p, dx, ls, lk, dr, dt, dn, tv, f, t, a, rfl, rfl, c, hn, ht, ha, q⟩ := h
  refine ⟨_, rfl, p, _, dx, _, _, rfl, c.ins, T.c_Network, T.n_Network_rooms, rfl, _, rfl, dr, oV (N.room a), rfl, .inr ⟨_, aK a, t, c.rooms, rfl, ht, by rw [dA_val, if_pos ha]⟩, ?_⟩
  refine ⟨_, rfl, rfl, _, rfl, ?_⟩
  unfold freeF at q
  cases hr : N.room a with
  | none =>
    rw [hr] at q
    exact iteT q
  | some r =>
    rw [hr] at q
    refine iteF ⟨_, rfl, _, rfl, p, _, dx, _, _, rfl, c.ins, T.c_Network, T.n_Network_numbers, rfl, _, rfl, dn, .int (f a), rfl, .inr ⟨_, aK a, t, .inl hn, rfl, ht, by rw [dA_val, if_pos ha]⟩, _, _, rfl, rfl, q⟩
theorem sc_Network_steps_from : FnScope ["self", "place", "found", "arc", "before", "behind"] ["self", "place"] (defScope s_Network_steps_from) := ⟨rfl, rfl, rfl, by decide +kernel, rfl, by decide +kernel, by decide +kernel⟩
theorem mt_Network_steps_from (T : Txt K mg) : C8.Met P w K mg base 2 (He.ga K "Network") "steps_from" (spSteps K) [] := by
  obtain ⟨fd, F⟩ := T.f_Network_steps_from
  refine metN T.c_Network T.m_Network_steps_from F sc_Network_steps_from (F.bindsN fun _ _ _ _ _ _ us hl => match us, hl with | [_, _], _ => rfl) len2 (fun cdv A outer s H vs Q E hr h => ?_)
  refine ⟨_, (pss_cons (ps_set (i := 2) sc_Network_steps_from.nd rfl (by first | exact Or.inl rfl | exact Or.inr rfl) (pe_lst pa_nil))
      (pss_cons (ps_lock (ps_for PassesOwn.never rfl (pi_keys (pe_fld (pv 0) rfl)) (pg_name (i := 3) sc_Network_steps_from.nd rfl (by first | exact Or.inl rfl | exact Or.inr rfl))
      (pss_cons (ps_asg (pe_dget (hu_of hr) (pe_fld (pv 0) rfl) (pv 3) (fun _ _ => rfl)) (pg_tup (by rfl) (pgs_cons (pg_name (i := 4) sc_Network_steps_from.nd rfl (by first | exact Or.inl rfl | exact Or.inr rfl)) (pgs_cons (pg_name (i := 5) sc_Network_steps_from.nd rfl (by first | exact Or.inl rfl | exact Or.inr rfl)) pgs_nil))))
      (C8.pss_cut (ps_if (PW.pt (pw_and (pt_cmpR op_eq (pv 4) (pv 1) (nomark _)) (pw_and1 (pt_cmpR (op_neD hr.units) (C8.pe_mt (mt_Network_free T) hr (by decide) (pv 0) (pa_cons (pv 3) pa_nil)) pe_int (nomark _))))) (pss_one (ps_expr (pe_bm PySem.F.plainAttrs_list PySem.F.slot_list_append PySem.F.type_list_append mt_append (pv 2) (pa_cons (pe_tup (pa_cons (pv 3) (pa_cons pe_int (pa_cons (pv 5) pa_nil)))) pa_nil))))
      pss_nil)
      (pss_one (ps_if (PW.pt (pw_and (pt_cmpR op_eq (pv 5) (pv 1) (nomark _)) (pw_and1 (pt_cmpR op_gt (pe_dget (hu_of hr) (pe_fld (pv 0) rfl) (pv 3) (fun _ _ => rfl)) pe_int (nomark _))))) (pss_one (ps_expr (pe_bm PySem.F.plainAttrs_list PySem.F.slot_list_append PySem.F.type_list_append mt_append (pv 2) (pa_cons (pe_tup (pa_cons (pv 3) (pa_cons (pe_un un_neg pe_int) (pa_cons (pv 4) pa_nil)))) pa_nil))))
      pss_nil))))))
      (pss_one (ps_ret (pv 2))))), ?_⟩
  -- slots: 0:self 1:place 2:found 3:arc 4:before 5:behind
  obtain ⟨x, y, rfl, N, p, dx, ls, lk, dr, dt, dn, tv, f, k, rfl, rfl, wok, c, hn, hdr, q⟩ := h
  have lin : 2000 < sizeLine := by rw [sizeLine_eq]; omega
  have lAs := N.len wok
  refine ⟨Nat.zero_le _, fun L hL => ?_⟩
  have x1 : Ext H (upd H L (.lst [])) := Ext.upd hL
  refine ⟨dr, _, x1 _ _ hdr, True.intro, fun od => ?_⟩
  have y0 : Ext (upd H dr (.frz od (.dT (dA N.As fun a => oV (N.room a))))) (upd (upd H L (.lst [])) dr (.frz od (.dT (dA N.As fun a => oV (N.room a))))) := lock_new hL hdr
  have l0 : Le H (upd H dr (.frz od (.dT (dA N.As fun a => oV (N.room a))))) := Le.lock hdr True.intro (by intro _ _ _ z; cases z)
  have hL0 : upd H dr (.frz od (.dT (dA N.As fun a => oV (N.room a)))) L = none := by rw [upd_ne (ne_of_none hdr hL).symm]; exact hL
  have hd0 : upd H dr (.frz od (.dT (dA N.As fun a => oV (N.room a)))) dr = some (.frz od (.dT (dA N.As fun a => oV (N.room a)))) := upd_same
  have hn0 : upd H dr (.frz od (.dT (dA N.As fun a => oV (N.room a)))) dn = some (numV N f) := by rw [upd_ne c.ne1]; exact hn
  have hl1 : upd (upd H L (.lst [])) dr (.frz od (.dT (dA N.As fun a => oV (N.room a)))) L = some (.lst []) := by rw [upd_ne (ne_of_none hdr hL).symm, upd_same]
  have c0 := c.le l0
  generalize hH0 : upd H dr (.frz od (.dT (dA N.As fun a => oV (N.room a)))) = H0 at y0 hL0 hd0 hn0 c0 l0
  generalize upd (upd H L (.lst [])) dr (.frz od (.dT (dA N.As fun a => oV (N.room a)))) = H1 at y0 hl1 ⊢
  have c1 := c0.ext y0
  refine ⟨_, rfl, p, _, dx, _, _, rfl, c1.ins, T.c_Network, T.n_Network_rooms, rfl, dr, od, rfl, .inr ⟨_, y0 _ _ hd0, ?_⟩⟩
  refine for_keys (fun i σ H' => ∃ vs v3 v4 v5, σ = [some (.ref p), some (.int k), some (.ref L), v3, v4, v5] ∧ Ext H0 H' ∧ H' L = some (.lst vs) ∧ A2 (StepV H') vs ((N.As.take i).flatMap (step1 N f k)))
    ⟨[], _, _, _, rfl, y0, hl1, .nil⟩ (fun i σ H' z => by obtain ⟨_, _, _, _, _, x, _⟩ := z; exact x _ _ hd0) ?_ ?_
  · rintro i a b σ H' hi ⟨vs, v3, v4, v5, rfl, x2, hl, av⟩ hb
    have ha : a ∈ N.As := List.mem_of_getElem? hi
    have c2 := c0.ext x2
    have lvs : vs.length ≤ 600 := by
      have h1 := av.len
      have h2 := steps_len N f k (N.As.take i)
      have h3 : (N.As.take i).length ≤ N.As.length := by rw [List.length_take]; omega
      omega
    obtain ⟨t, et, ht⟩ := c2.tipv a ha
    refine ⟨_, rfl, p, _, dx, _, _, rfl, c2.ins, T.c_Network, T.n_Network_tips, rfl, _, rfl, dt, tv a, rfl, .inr ⟨_, aK a, b, c2.tips, rfl, hb, by rw [dA_val, if_pos ha]⟩, t, _, et, ht, rfl, _, _, rfl, _, _, rfl, rfl, ?_⟩
    rw [List.take_add_one, hi, List.flatMap_append]
    show C8.tCut _ _ _ _ _
    refine ⟨fun σ' H2 => ∃ vs, σ' = [some (.ref p), some (.int k), some (.ref L), some (.ref b), some (.int (N.tip a).1), some (.int (N.tip a).2)] ∧ Ext H0 H2 ∧ H2 b = some (.tup ((aK a).map kV)) ∧ H2 L = some (.lst vs) ∧ vs.length ≤ 601 ∧
      A2 (StepV H2) vs ((N.As.take i).flatMap (step1 N f k) ++ (if (N.tip a).1 = k ∧ freeF N f a ≠ some 0 then [(a, 1, (N.tip a).2)] else [])), ?_, ?_⟩
    · refine ⟨_, rfl, _, rfl, rfl, _, rfl, ?_⟩
      by_cases e1 : (N.tip a).1 = k
      · rw [decide_eq_true (show V.int (N.tip a).1 = V.int k by rw [e1])]
        refine iteT ⟨_, rfl, p, dx, _, rfl, c2.ins, rfl, _, rfl, _, _, rfl, N, p, dx, ls, lk, dr, dt, dn, tv, f, b, a, rfl, rfl, c2, x2 _ _ hn0, hb, ha, ?_⟩
        refine ⟨oI (freeF N f a), .int 0, dp_o _, .int 0, shp_oI _, rfl, _, rfl, ?_⟩
        rw [free_ne]
        by_cases e2 : freeF N f a ≠ some 0
        · rw [decide_eq_true e2, if_pos ⟨e1, e2⟩]
          refine iteT ⟨_, rfl, .inl ⟨rfl, _, .of hl⟩, _, rfl, _, rfl, by show 3 ≤ sizeLine; omega, fun m hm => ?_⟩
          have y1 : Ext H' (upd H' m (.tup [.ref b, .int 1, .int (N.tip a).2])) := Ext.upd hm
          have hl3 := y1 _ _ hl
          have td : Td (upd H' m (.tup [.ref b, .int 1, .int (N.tip a).2])) (upd (upd H' m (.tup [.ref b, .int 1, .int (N.tip a).2])) L (.lst (vs ++ [.ref m]))) := Td.put hl3 (by intro _ z; cases z)
          refine ⟨L, _, _, rfl, rfl, hl3, by omega, vs ++ [.ref m], rfl, (x2.trans y1).put hL0, td _ _ (y1 _ _ hb), upd_same, by rw [List.length_append, List.length_singleton]; omega, ?_⟩
          exact (av.imp fun v x z => (z.td (Td.of y1)).td td).app (A2.one ⟨m, b, rfl, td _ _ upd_same, td _ _ (y1 _ _ hb)⟩)
        · rw [decide_eq_false e2, if_neg (fun z => e2 z.2), List.append_nil]
          exact iteF ⟨vs, rfl, x2, hb, hl, by omega, av⟩
      · rw [decide_eq_false (show ¬ V.int (N.tip a).1 = V.int k from fun z => e1 (V.int.inj z)), if_neg (fun z => e1 z.1), List.append_nil]
        exact iteF (iteF ⟨vs, rfl, x2, hb, hl, by omega, av⟩)
    · rintro σ' H2 ⟨vs, rfl, x2, hb, hl, lvs, av⟩
      have c2 := c0.ext x2
      have e3 : [a].flatMap (step1 N f k) = (if (N.tip a).1 = k ∧ freeF N f a ≠ some 0 then [(a, 1, (N.tip a).2)] else []) ++ (if (N.tip a).2 = k ∧ 0 < f a then [(a, -1, (N.tip a).1)] else []) := by
        rw [List.flatMap_singleton]
        rfl
      have fin : ∀ {H' vs'} v3 v4 v5, Ext H0 H' → H' L = some (.lst vs') → A2 (StepV H') vs' ((N.As.take i).flatMap (step1 N f k) ++ (if (N.tip a).1 = k ∧ freeF N f a ≠ some 0 then [(a, 1, (N.tip a).2)] else []) ++ (if (N.tip a).2 = k ∧ 0 < f a then [(a, -1, (N.tip a).1)] else [])) →
          ∃ vs w3 w4 w5, ([some (V.ref p), some (V.int k), some (V.ref L), v3, v4, v5] : L2.St) = [some (V.ref p), some (V.int k), some (V.ref L), w3, w4, w5] ∧ Ext H0 H' ∧ H' L = some (.lst vs) ∧ A2 (StepV H') vs ((N.As.take i).flatMap (step1 N f k) ++ (some a).toList.flatMap (step1 N f k)) := fun {H' vs'} v3 v4 v5 a1 a2 a3 =>
        ⟨vs', v3, v4, v5, rfl, a1, a2, by rw [Option.toList_some, e3, ← List.append_assoc]; exact a3⟩
      refine ⟨_, rfl, _, rfl, rfl, _, rfl, ?_⟩
      by_cases e1 : (N.tip a).2 = k
      · rw [decide_eq_true (show V.int (N.tip a).2 = V.int k by rw [e1])]
        refine iteT ⟨_, rfl, p, _, dx, _, _, rfl, c2.ins, T.c_Network, T.n_Network_numbers, rfl, _, rfl, dn, .int (f a), rfl, .inr ⟨_, aK a, b, .inl (x2 _ _ hn0), rfl, hb, by rw [dA_val, if_pos ha]⟩, _, _, rfl, rfl, _, rfl, ?_⟩
        by_cases e2 : 0 < f a
        · rw [decide_eq_true e2]
          refine iteT ⟨_, rfl, .inl ⟨rfl, _, .of hl⟩, _, rfl, _, rfl, _, rfl, by show 3 ≤ sizeLine; omega, fun m hm => ?_⟩
          have y1 : Ext H2 (upd H2 m (.tup [.ref b, .int (-1), .int (N.tip a).1])) := Ext.upd hm
          have hl3 := y1 _ _ hl
          have td : Td (upd H2 m (.tup [.ref b, .int (-1), .int (N.tip a).1])) (upd (upd H2 m (.tup [.ref b, .int (-1), .int (N.tip a).1])) L (.lst (vs ++ [.ref m]))) := Td.put hl3 (by intro _ z; cases z)
          refine ⟨L, _, _, rfl, rfl, hl3, by omega, fin _ _ _ ((x2.trans y1).put hL0) upd_same ?_⟩
          rw [if_pos (show (N.tip a).2 = k ∧ 0 < f a from ⟨e1, e2⟩)]
          exact (av.imp fun v x z => (z.td (Td.of y1)).td td).app (A2.one (x := (a, -1, (N.tip a).1)) ⟨m, b, rfl, td _ _ upd_same, td _ _ (y1 _ _ hb)⟩)
        · rw [decide_eq_false e2]
          exact iteF (fin _ _ _ x2 hl (by rw [if_neg (show ¬ ((N.tip a).2 = k ∧ 0 < f a) from fun z => e2 z.2), List.append_nil]; exact av))
      · rw [decide_eq_false (show ¬ V.int (N.tip a).2 = V.int k from fun z => e1 (V.int.inj z))]
        exact iteF (iteF (fin _ _ _ x2 hl (by rw [if_neg (show ¬ ((N.tip a).2 = k ∧ 0 < f a) from fun z => e1 z.1), List.append_nil]; exact av)))
  · rintro σ H' ⟨vs, v3, v4, v5, rfl, x2, hl, av⟩
    rw [List.take_length] at av
    have hd' := x2 _ _ hd0
    have td : Td H' (upd H' dr (.dT (dA N.As fun a => oV (N.room a)))) := Td.put hd' (by intro _ z; cases z)
    have nLd : L ≠ dr := (ne_of_none hdr hL).symm
    refine ⟨hd', _, rfl, q L vs _ hL (unlock_ext hdr (by rw [hH0]; exact x2)) (by rw [upd_ne nLd]; exact hl) (av.imp fun v x z => z.td td)⟩
end
end Sv
namespace Sv
open PySem PySem.Spec PyProof.Rows L2
/-! ### met_from -/
structure Ent where
  k : Int
  pr : Int
  a : Ak
  t : Int
def ksF (S : List Int) (tr : List Ent) : List Int := S ++ tr.map Ent.k
theorem ksF_snoc (S : List Int) (tr : List Ent) (e : Ent) : ksF S (tr ++ [e]) = ksF S tr ++ [e.k] := by
  unfold ksF
  rw [List.map_append, List.append_assoc]
  rfl
def TrOk (St : Int → List Stp) (S : List Int) (tr : List Ent) : Prop := ∀ i e, tr[i]? = some e → (e.a, e.t, e.k) ∈ St e.pr ∧ e.pr ∈ ksF S (tr.take i) ∧ ¬ e.k ∈ ksF S (tr.take i)
theorem TrOk.snoc {St : Int → List Stp} {S : List Int} {tr : List Ent} {e : Ent} (h : TrOk St S tr) (h1 : (e.a, e.t, e.k) ∈ St e.pr) (h2 : e.pr ∈ ksF S tr) (h3 : ¬ e.k ∈ ksF S tr) : TrOk St S (tr ++ [e]) := by
  intro i x hx
  rcases Nat.lt_or_ge i tr.length with c | c
  · rw [List.getElem?_append_left c] at hx
    rw [List.take_append_of_le_length (Nat.le_of_lt c)]
    exact h i x hx
  · rw [List.getElem?_append_right c] at hx
    have e0 : i - tr.length = 0 := by
      have := (List.getElem?_eq_some_iff.mp hx).1
      rw [List.length_singleton] at this
      omega
    rw [e0] at hx
    cases hx
    have ei : i = tr.length := by omega
    rw [ei, List.take_append_of_le_length (Nat.le_refl _), List.take_length]
    exact ⟨h1, h2, h3⟩
def MvOk (H : Hp) (S : List Int) (tr : List Ent) (mv : Key → V) : Prop := (∀ k ∈ S, mv (Sum.inl k) = .non) ∧ ∀ e ∈ tr, ∃ m b, mv (Sum.inl e.k) = .ref m ∧ H m = some (.tup [.int e.pr, .ref b, .int e.t]) ∧ H b = some (.tup ((aK e.a).map kV))
theorem MvOk.td {H H' : Hp} {S : List Int} {tr : List Ent} {mv : Key → V} (h : MvOk H S tr mv) (e : Td H H') : MvOk H' S tr mv :=
  ⟨h.1, fun x hx => by
    obtain ⟨m, b, h1, h2, h3⟩ := h.2 x hx
    exact ⟨m, b, h1, e _ _ h2, e _ _ h3⟩⟩
def Uni (N : ND) : List Int := -1 :: below N.W.n
theorem uni_len (N : ND) : (Uni N).length = N.W.n.toNat + 1 := by
  unfold Uni
  rw [List.length_cons, below_len]
theorem uni_g (N : ND) (h : N.W.Ok) {g : Nat} (hg : g < N.W.G.length) : (N.W.G.getD g (0, 0)).1 ∈ Uni N ∧ (N.W.G.getD g (0, 0)).2 ∈ Uni N := by
  have hm : N.W.G.getD g (0, 0) ∈ N.W.G := by
    rw [List.getD_eq_getElem?_getD, List.getElem?_eq_getElem hg]
    exact List.getElem_mem hg
  generalize N.W.G.getD g (0, 0) = p at hm
  unfold WD.G gatesW at hm
  rcases List.mem_append.mp hm with z | z
  · exact ⟨List.mem_cons_of_mem _ (mem_below.mpr (h.ip p z).1), List.mem_cons_of_mem _ (mem_below.mpr (h.ip p z).2)⟩
  · rcases List.mem_cons.mp z with z | z
    · rw [z]
      exact ⟨List.mem_cons_self, List.mem_cons_of_mem _ (mem_below.mpr h.io)⟩
    · obtain ⟨k, hk, rfl⟩ := List.mem_map.mp z
      exact ⟨List.mem_cons_of_mem _ (mem_below.mpr (h.ie k hk)), List.mem_cons_self⟩
theorem uni_tip (N : ND) (h : N.W.Ok) {a : Ak} (ha : a ∈ N.As) : (N.tip a).1 ∈ Uni N ∧ (N.tip a).2 ∈ Uni N := by
  have := uni_g N h (arcsF_lt (List.mem_filter.mp ha).1)
  unfold ND.tip tipF
  split
  · exact ⟨this.2, this.1⟩
  · exact this
theorem step_mem {N : ND} {f : Ak → Int} {k : Int} {s : Stp} (h : s ∈ stepsF N f k) : s.1 ∈ N.As ∧ ((s.2.1 = 1 ∧ (N.tip s.1).1 = k ∧ freeF N f s.1 ≠ some 0 ∧ s.2.2 = (N.tip s.1).2) ∨ (s.2.1 = -1 ∧ (N.tip s.1).2 = k ∧ 0 < f s.1 ∧ s.2.2 = (N.tip s.1).1)) := by
  unfold stepsF at h
  obtain ⟨a, ha, hs⟩ := List.mem_flatMap.mp h
  unfold step1 at hs
  rcases List.mem_append.mp hs with z | z
  · split at z
    · rename_i c
      rw [List.mem_singleton] at z
      subst z
      exact ⟨ha, .inl ⟨rfl, c.1, c.2, rfl⟩⟩
    · cases z
  · split at z
    · rename_i c
      rw [List.mem_singleton] at z
      subst z
      exact ⟨ha, .inr ⟨rfl, c.1, c.2, rfl⟩⟩
    · cases z
theorem step_uni {N : ND} (h : N.W.Ok) {f : Ak → Int} {k : Int} {s : Stp} (hs : s ∈ stepsF N f k) : s.2.2 ∈ Uni N := by
  obtain ⟨ha, z⟩ := step_mem hs
  have u := uni_tip N h ha
  rcases z with ⟨_, _, _, e⟩ | ⟨_, _, _, e⟩
  · rw [e]
    exact u.2
  · rw [e]
    exact u.1
def Clo (St : Int → List Stp) (ks : List Int) : Prop := ∀ k ∈ ks, ∀ s ∈ St k, s.2.2 ∈ ks
/-- the state of met_from -/
structure MetI (H : Hp) (N : ND) (St : Int → List Stp) (D L : Addr) (tr : List Ent) (mv : Key → V) (H' : Hp) : Prop where
  x : Ext H H'
  d : H' D = some (.dK (dG (ik (ksF N.S tr)) mv))
  l : H' L = some (.lst ((ksF N.S tr).map V.int))
  trk : TrOk St N.S tr
  mvk : MvOk H' N.S tr mv
  nd : (ksF N.S tr).Nodup
  un : ∀ k ∈ ksF N.S tr, k ∈ Uni N
theorem MetI.len {H H' : Hp} {N : ND} {St : Int → List Stp} {D L : Addr} {tr : List Ent} {mv : Key → V} (h : MetI H N St D L tr mv H') : (ksF N.S tr).length ≤ N.W.n.toNat + 1 := by
  have := nodup_le _ _ h.nd h.un
  rwa [uni_len] at this
theorem MetI.ext {H H' H2 : Hp} {N : ND} {St : Int → List Stp} {D L : Addr} {tr : List Ent} {mv : Key → V} (h : MetI H N St D L tr mv H') (e : Ext H' H2) : MetI H N St D L tr mv H2 :=
  ⟨h.x.trans e, e _ _ h.d, e _ _ h.l, h.trk, h.mvk.td (.of e), h.nd, h.un⟩
def spMet (K : PySem.W.Frag) : Sp := sp2 fun x y H Q => ∃ N p dx ls lk dr dt dn tv f a, x = .ref p ∧ y = .ref a ∧ N.Ok ∧ NetC K H N p dx ls lk dr dt dn tv ∧ H dn = some (numV N f) ∧ H dr = some (.dT (dA N.As fun a => oV (N.room a))) ∧ SqL K H a (N.S.map V.int) ∧
  ∀ D tr mv H', H D = none → Ext H H' → H' D = some (.dK (dG (ik (ksF N.S tr)) mv)) → TrOk (stepsF N f) N.S tr → MvOk H' N.S tr mv → Clo (stepsF N f) (ksF N.S tr) → (ksF N.S tr).Nodup → (∀ k ∈ ksF N.S tr, k ∈ Uni N) → Q (.ref D) H'
section
variable {P : Program} {w : World} {K : PySem.W.Frag} {mg : PySem.Str → Option Value} {base : Heap}
theorem sc_Network_met_from : FnScope ["self", "places", "met", "place", "todo", "at", "arc", "turn", "behind"] ["self", "places"] (defScope s_Network_met_from) := ⟨rfl, rfl, rfl, by decide +kernel, rfl, by decide +kernel, by decide +kernel⟩
theorem mt_Network_met_from (T : Txt K mg) : C8.Met P w K mg base 3 (He.ga K "Network") "met_from" (spMet K) [] := by
  obtain ⟨fd, F⟩ := T.f_Network_met_from
  refine metN T.c_Network T.m_Network_met_from F sc_Network_met_from (F.bindsN fun _ _ _ _ _ _ us hl => match us, hl with | [_, _], _ => rfl) len2 (fun cdv A outer s H vs Q E hr h => ?_)
  refine ⟨_, (pss_cons (ps_setDc (i := 2) (own := [("place", 3)]) (g := gName 3) (tt := tYes) rfl sc_Network_met_from.nd rfl rfl (sw_trueD rfl rfl rfl (by decide +kernel)) (pi_any (own_it T) (hr.mono (by decide)) (pv 1)) (blkOk_by (own := [("place", 3)]) (N := ["self", "places", "met", "place", "todo", "at", "arc", "turn", "behind"]) (sc := defScope s_Network_met_from) (by decide +kernel)) (fun _ _ _ _ _ => pg_name (i := 3) sc_Network_met_from.nd rfl (by first | exact Or.inl rfl | exact Or.inr rfl)) (fun _ _ _ _ _ => pts_nil) (fun _ _ _ _ _ => (pv 3)) (fun _ _ _ _ _ => pe_non))
      (pss_cons (ps_set (i := 4) sc_Network_met_from.nd rfl (by first | exact Or.inl rfl | exact Or.inr rfl) (pe_callTy call_list_of (by rfl) T.b_list (by decide +kernel) (pa_cons (pv 1) pa_nil)))
      (pss_cons (ps_set (i := 5) sc_Network_met_from.nd rfl (by first | exact Or.inl rfl | exact Or.inr rfl) pe_int)
      (pss_cons (ps_while PassesOwn.never (pt_cmpR op_lt (pv 5) (pe_callB call_len (by rfl) T.b_len (by decide +kernel) (pa_cons (pv 4) pa_nil)) (nomark _))
      (pss_cons (ps_for PassesOwn.never rfl (pi_list (C8.pe_mt (mt_Network_steps_from T) hr (by decide) (pv 0) (pa_cons (pe_ix ix_list (pv 4) (pv 5) (fun _ _ => rfl)) pa_nil))) (pg_tup (by rfl) (pgs_cons (pg_name (i := 6) sc_Network_met_from.nd rfl (by first | exact Or.inl rfl | exact Or.inr rfl)) (pgs_cons (pg_name (i := 7) sc_Network_met_from.nd rfl (by first | exact Or.inl rfl | exact Or.inr rfl)) (pgs_cons (pg_name (i := 8) sc_Network_met_from.nd rfl (by first | exact Or.inl rfl | exact Or.inr rfl)) pgs_nil))))
      (pss_one (ps_if (pt_cmp (pc_dnotin (hu_of hr) (pv 8) (pv 2))) (pss_cons (ps_dput (hu_of hr) (pv 2) (pv 8) (pe_tup (pa_cons (pe_ix ix_list (pv 4) (pv 5) (fun _ _ => rfl)) (pa_cons (pv 6) (pa_cons (pv 7) pa_nil)))) rfl)
      (pss_one (ps_expr (pe_bm PySem.F.plainAttrs_list PySem.F.slot_list_append PySem.F.type_list_append mt_append (pv 4) (pa_cons (pv 8) pa_nil)))))
      pss_nil)))
      (pss_one (ps_aug (i := 5) sc_Network_met_from.nd rfl (by first | exact Or.inl rfl | exact Or.inr rfl) pe_int ip_add))))
      (pss_one (ps_ret (pv 2))))))), ?_⟩
  -- slots: 0:self 1:places 2:met 3:place 4:todo 5:at 6:arc 7:turn 8:behind
  obtain ⟨x, y, rfl, N, p, dx, ls, lk, dr, dt, dn, tv, f, a, rfl, rfl, nok, c, hn, hdr, hs, q⟩ := h
  have wok := nok.w
  have lin : 2000 < sizeLine := by rw [sizeLine_eq]; omega
  have lS : N.S.length ≤ 24 := by
    have := nodup_le N.S (below N.W.n) nok.nd fun k hk => mem_below.mpr (nok.ss k hk)
    rw [below_len] at this
    have := wok.n1
    omega
  obtain ⟨J, hw⟩ := ints_itb (.inl hs)
  refine ⟨_, rfl, a, _, J, rfl, hw, fun D hD => dc_any hw hD (fun i H' => H' D = some (.dK (dG (ik (N.S.take i)) fun _ => .non)) ∧ Ext H H') ⟨upd_same, Ext.upd hD⟩ (fun i H' e => e.2) (fun i x H' hi e => ?_) fun H1 e => ?_⟩
  · obtain ⟨hk, x1⟩ := e
    obtain ⟨k, hk', rfl⟩ := map_at hi
    have il := (List.getElem?_eq_some_iff.mp hk').1
    refine ⟨rfl, _, rfl, _, Sum.inl k, rfl, hk, by rw [dg_len, List.length_map, List.length_take]; omega, ?_, x1.put hD⟩
    rw [upd_same, dg_newc (fun z => nodup_take nok.nd hk' (mem_ik.mp z)), ik_snoc, List.take_add_one, hk']
    rfl
  · obtain ⟨hk, x1⟩ := e
    rw [List.length_map, List.take_length] at hk
    refine ⟨_, rfl, a, _, rfl, .inl (hs.ext x1), fun L hL => ?_⟩
    have nDL : L ≠ D := neD hk hL
    have hL0 : H L = none := x1.non hL
    have I0 : MetI H N (stepsF N f) D L [] (fun _ => .non) (upd H1 L (.lst (N.S.map V.int))) := by
      have e : ksF N.S [] = N.S := List.append_nil _
      refine ⟨x1.put hL0, ?_, ?_, fun i e h => by simp at h, ⟨fun _ _ => rfl, fun e h => by cases h⟩, by rw [e]; exact nok.nd, fun k hk => ?_⟩
      · rw [upd_ne nDL.symm, e]
        exact hk
      · rw [upd_same, e]
      · rw [e] at hk
        exact List.mem_cons_of_mem _ (mem_below.mpr (nok.ss k hk))
    refine ⟨fun m σ H' => ∃ (i : Nat) (tr : List Ent) (mv : Key → V) (v3 v6 v7 v8 : Option V), σ = [some (.ref p), some (.ref a), some (.ref D), v3, some (.ref L), some (.int (i : Int)), v6, v7, v8] ∧ MetI H N (stepsF N f) D L tr mv H' ∧ i ≤ (ksF N.S tr).length ∧
      (∀ k ∈ (ksF N.S tr).take i, ∀ s ∈ stepsF N f k, s.2.2 ∈ ksF N.S tr) ∧ m = N.W.n.toNat + 1 - i, ⟨_, 0, [], _, _, _, _, _, rfl, I0, Nat.zero_le _, (by intro k hk; simp at hk), rfl⟩, ?_⟩
    rintro m σ H2 ⟨i, tr, mv, v3, v6, v7, v8, rfl, I, hi, clo, em⟩
    refine ⟨_, rfl, _, rfl, _, _, rfl, .inl ⟨_, .of I.l, rfl⟩, _, _, rfl, rfl, _, rfl, ?_⟩
    rw [List.length_map]
    rcases Nat.lt_or_ge i (ksF N.S tr).length with lt | ge
    · rw [decide_eq_true (show (i : Int) < ((ksF N.S tr).length : Nat) by omega)]
      refine iteT ⟨fun σ' H' => ∃ m', m' < m ∧ ∃ (i : Nat) (tr : List Ent) (mv : Key → V) (v3 v6 v7 v8 : Option V), σ' = [some (.ref p), some (.ref a), some (.ref D), v3, some (.ref L), some (.int (i : Int)), v6, v7, v8] ∧ MetI H N (stepsF N f) D L tr mv H' ∧ i ≤ (ksF N.S tr).length ∧
        (∀ k ∈ (ksF N.S tr).take i, ∀ s ∈ stepsF N f k, s.2.2 ∈ ksF N.S tr) ∧ m' = N.W.n.toNat + 1 - i, fun σ' H' z => z, ?_⟩
      have hki : (ksF N.S tr)[i]? = some (ksF N.S tr)[i] := List.getElem?_eq_getElem lt
      generalize (ksF N.S tr)[i] = k0 at hki
      have ll := I.len
      have at_ : atI ((ksF N.S tr).map V.int) (i : Int) = some (.int k0) := atI_nat (by rw [List.getElem?_map, hki]; rfl)
      refine ⟨_, rfl, p, dx, _, rfl, (c.ext I.x).ins, rfl, _, rfl, _, rfl, L, _, _, _, rfl, rfl, .of I.l, at_, _, _, rfl, N, p, dx, ls, lk, dr, dt, dn, tv, f, k0, rfl, rfl, wok, c.ext I.x, I.x _ _ hn, I.x _ _ hdr, fun Ls vs H3 nLs x3 hLs av => ?_⟩
      have I3 := I.ext x3
      have nL1 : Ls ≠ D := (ne_of_none I.d nLs).symm
      have nL2 : Ls ≠ L := (ne_of_none I.l nLs).symm
      refine ⟨Ls, rfl, ⟨_, .of hLs⟩, for_list (K := K) (a := Ls) (xs := vs) (fun j σ H' => ∃ tr' ex mv' v6 v7 v8, σ = [some (.ref p), some (.ref a), some (.ref D), v3, some (.ref L), some (.int (i : Int)), v6, v7, v8] ∧ tr' = tr ++ ex ∧ MetI H N (stepsF N f) D L tr' mv' H' ∧ Td H3 H' ∧ H' Ls = some (.lst vs) ∧
        ∀ s ∈ (stepsF N f k0).take j, s.2.2 ∈ ksF N.S tr') ⟨tr, [], mv, _, _, _, rfl, (List.append_nil _).symm, I3, fun _ _ h => h, hLs, (by intro s hs; simp at hs)⟩ (fun j σ H' _ z => ?_) ?_ ?_⟩
      · obtain ⟨_, _, _, _, _, _, _, _, _, _, z, _⟩ := z
        exact .of z
      · rintro j v σ H' hj ⟨tr', ex, mv', v6, v7, v8, rfl, rfl, I', td, hLs', cv⟩
        obtain ⟨s, hs, m, b, rfl, hm, hb⟩ := av.get hj
        have hm' := td _ _ hm
        have hb' := td _ _ hb
        have sin : s ∈ stepsF N f k0 := List.mem_of_getElem? hs
        have cv' : ∀ {ks : List Int}, (∀ k ∈ ksF N.S (tr ++ ex), k ∈ ks) → s.2.2 ∈ ks → ∀ s' ∈ (stepsF N f k0).take (j + 1), s'.2.2 ∈ ks := fun {ks} h1 h2 s' hs' => by
          rw [List.take_add_one, hs, List.mem_append] at hs'
          rcases hs' with z | z
          · exact h1 _ (cv s' z)
          · simp at z
            rw [z]
            exact h2
        have ks0 : ∀ ex : List Ent, ksF N.S (tr ++ ex) = ksF N.S tr ++ ex.map Ent.k := fun ex => by
          unfold ksF
          rw [List.map_append, List.append_assoc]
        refine ⟨m, _, rfl, .of hm', rfl, _, _, rfl, _, _, rfl, _, _, rfl, rfl, ?_⟩
        refine ⟨_, rfl, _, rfl, D, _, rfl, DGet.k (k := Sum.inl s.2.2) I'.d, _, rfl, ?_⟩
        rw [dg_val]
        by_cases hq : s.2.2 ∈ ksF N.S (tr ++ ex)
        · rw [if_pos (mem_ik.mpr hq)]
          exact iteF ⟨tr ++ ex, ex, mv', _, _, _, rfl, rfl, I', td, hLs', cv' (fun _ h => h) hq⟩
        · rw [if_neg fun z => hq (mem_ik.mp z)]
          have hk' : (ksF N.S (tr ++ ex))[i]? = some k0 := by
            rw [ks0, List.getElem?_append_left lt]
            exact hki
          have at' : atI ((ksF N.S (tr ++ ex)).map V.int) (i : Int) = some (.int k0) := atI_nat (by rw [List.getElem?_map, hk']; rfl)
          have ll' := I'.len
          have n1 := wok.n1
          refine iteT ⟨_, rfl, _, rfl, L, _, _, _, rfl, rfl, .of I'.l, at', _, rfl, _, rfl, by show 3 ≤ sizeLine; omega, fun mm hmm => ?_⟩
          have y1 : Ext H' (upd H' mm (.tup [.int k0, .ref b, .int s.2.1])) := Ext.upd hmm
          have I4 := I'.ext y1
          refine ⟨_, rfl, _, rfl, D, _, rfl, DPut.k (k := Sum.inl s.2.2) I4.d (by rw [dg_len, List.length_map]; omega), ?_⟩
          have hl5 : upd (upd H' mm (.tup [.int k0, .ref b, .int s.2.1])) D (.dK (putK (dG (ik (ksF N.S (tr ++ ex))) mv') (Sum.inl s.2.2) (.ref mm))) L = some (.lst ((ksF N.S (tr ++ ex)).map V.int)) := by rw [upd_ne nDL]; exact I4.l
          refine ⟨_, rfl, .inl ⟨rfl, _, .of hl5⟩, _, rfl, L, _, _, rfl, rfl, hl5, by rw [List.length_map]; omega, ?_⟩
          have td1 : Td H' (upd (upd (upd H' mm (.tup [.int k0, .ref b, .int s.2.1])) D (.dK (putK (dG (ik (ksF N.S (tr ++ ex))) mv') (Sum.inl s.2.2) (.ref mm)))) L (.lst ((ksF N.S (tr ++ ex)).map V.int ++ [.int s.2.2]))) :=
            ((Td.of y1).trans (Td.put I4.d (by intro _ z; cases z))).trans (Td.put hl5 (by intro _ z; cases z))
          have hmm5 : upd (upd (upd H' mm (.tup [.int k0, .ref b, .int s.2.1])) D (.dK (putK (dG (ik (ksF N.S (tr ++ ex))) mv') (Sum.inl s.2.2) (.ref mm)))) L (.lst ((ksF N.S (tr ++ ex)).map V.int ++ [.int s.2.2])) mm = some (.tup [.int k0, .ref b, .int s.2.1]) :=
            ((Td.put I4.d (by intro _ z; cases z)).trans (Td.put hl5 (by intro _ z; cases z))) _ _ upd_same
          have eks : ksF N.S ((tr ++ ex) ++ [⟨s.2.2, k0, s.1, s.2.1⟩]) = ksF N.S (tr ++ ex) ++ [s.2.2] := ksF_snoc _ _ _
          refine ⟨tr ++ (ex ++ [⟨s.2.2, k0, s.1, s.2.1⟩]), ex ++ [⟨s.2.2, k0, s.1, s.2.1⟩], fun y => if y = Sum.inl s.2.2 then .ref mm else mv' y, _, _, _, rfl, rfl, ?_, td.trans td1, ?_, ?_⟩
          · rw [← List.append_assoc]
            refine ⟨(I4.x.put hD).put hL0, ?_, ?_, I'.trk.snoc sin (List.mem_of_getElem? hk') hq, ⟨fun k hk => ?_, fun e he => ?_⟩, ?_, ?_⟩
            · rw [upd_ne nDL.symm, upd_same, dg_new _ (fun z => hq (mem_ik.mp z)), ik_snoc, eks]
            · rw [upd_same, eks, List.map_append]
              rfl
            · have : ¬ (Sum.inl k : Key) = Sum.inl s.2.2 := fun z => hq (by cases z; exact List.mem_append_left _ hk)
              exact (if_neg this).trans (I'.mvk.1 k hk)
            · rcases List.mem_append.mp he with he | he
              · have : ¬ (Sum.inl e.k : Key) = Sum.inl s.2.2 := fun z => hq (by
                  have z' : e.k = s.2.2 := Sum.inl.inj z
                  rw [← z']
                  exact List.mem_append_right _ (List.mem_map.mpr ⟨e, he, rfl⟩))
                obtain ⟨m1, b1, q1, q2, q3⟩ := I'.mvk.2 e he
                exact ⟨m1, b1, (if_neg this).trans q1, td1 _ _ q2, td1 _ _ q3⟩
              · rw [List.mem_singleton.mp he]
                exact ⟨mm, b, if_pos rfl, hmm5, td1 _ _ hb'⟩
            · rw [eks]
              exact nodup_snoc I'.nd hq
            · rw [eks]
              intro k hk
              rcases List.mem_append.mp hk with hk | hk
              · exact I'.un k hk
              · rw [List.mem_singleton.mp hk]
                exact step_uni wok sin
          · rw [upd_ne nL2, upd_ne nL1]
            exact y1 _ _ hLs'
          · rw [← List.append_assoc]
            refine cv' (fun k hk => ?_) ?_
            · rw [eks]
              exact List.mem_append_left _ hk
            · rw [eks]
              exact List.mem_append_right _ List.mem_cons_self
      · rintro σ H' ⟨tr', ex, mv', v6, v7, v8, rfl, rfl, I', td, hLs', cv⟩
        have ks0 : ksF N.S (tr ++ ex) = ksF N.S tr ++ ex.map Ent.k := by
          unfold ksF
          rw [List.map_append, List.append_assoc]
        rw [av.len, List.take_length] at cv
        refine ⟨_, rfl, _, _, rfl, rfl, m - 1, by omega, i + 1, tr ++ ex, mv', _, _, _, _, rfl, I', by rw [ks0, List.length_append]; omega, fun k hk s hs => ?_, by omega⟩
        have e1 : (ksF N.S (tr ++ ex)).take (i + 1) = (ksF N.S tr).take i ++ [k0] := by
          rw [ks0, List.take_append_of_le_length (by omega), List.take_add_one, hki]
          rfl
        rw [e1] at hk
        rcases List.mem_append.mp hk with hk | hk
        · rw [ks0]
          exact List.mem_append_left _ (clo k hk s hs)
        · rw [List.mem_singleton.mp hk] at hs
          exact cv s hs
    · rw [decide_eq_false (show ¬ (i : Int) < ((ksF N.S tr).length : Nat) by omega)]
      refine iteF ⟨_, rfl, q D tr mv H2 hD I.x I.d I.trk I.mvk (fun k hk => clo k ?_) I.nd I.un⟩
      rw [List.take_of_length_le ge]
      exact hk
end
end Sv
namespace Sv
open PySem PySem.Spec PyProof.Rows L2
/-! ### way_back -/
inductive Seg : List Ent → Int → Int → Prop where
  | nil (u : Int) : Seg [] u u
  | cons {e : Ent} {es : List Ent} {v : Int} : Seg es e.k v → Seg (e :: es) e.pr v
def PStepV (H : Hp) (v : V) (s : Ak × Int) : Prop := ∃ m b, v = .ref m ∧ H m = some (.tup [.ref b, .int s.2]) ∧ H b = some (.tup ((aK s.1).map kV))
theorem PStepV.td {H H' : Hp} {v : V} {s : Ak × Int} (h : PStepV H v s) (e : Td H H') : PStepV H' v s := by
  obtain ⟨m, b, a1, a2, a3⟩ := h
  exact ⟨m, b, a1, e _ _ a2, e _ _ a3⟩
def stp (e : Ent) : Ak × Int := (e.a, e.t)
theorem A2.rev {α β : Type} {R : α → β → Prop} {vs : List α} {xs : List β} (h : A2 R vs xs) : A2 R vs.reverse xs.reverse := by
  refine ⟨by rw [List.length_reverse, List.length_reverse, h.len], fun i v x hv hx => ?_⟩
  have l1 := (List.getElem?_eq_some_iff.mp hv).1
  have l2 := (List.getElem?_eq_some_iff.mp hx).1
  rw [List.length_reverse] at l1 l2
  rw [List.getElem?_reverse l1] at hv
  rw [List.getElem?_reverse l2, ← h.len] at hx
  exact h.at_ _ v x hv hx
def spWay (K : PySem.W.Frag) : Sp := sp2 fun x y H Q => ∃ D S tr mv St place, x = .ref D ∧ y = .int place ∧ H D = some (.dK (dG (ik (ksF S tr)) mv)) ∧ TrOk St S tr ∧ MvOk H S tr mv ∧ place ∈ ksF S tr ∧ tr.length ≤ 1000 ∧
  ∀ L vs es u H', H L = none → Ext H H' → H' L = some (.lst vs) → A2 (PStepV H') vs (List.map stp es) → u ∈ S → Seg es u place → es.Sublist tr → Q (.ref L) H'
section
variable {P : Program} {w : World} {K : PySem.W.Frag} {mg : PySem.Str → Option Value} {base : Heap}
theorem sc_way_back : FnScope ["met", "place", "taken", "before", "arc", "turn"] ["met", "place"] (defScope s_way_back) := ⟨rfl, rfl, rfl, by decide +kernel, rfl, by decide +kernel, by decide +kernel⟩
theorem c_way_back (T : Txt K mg) : C8.Cal P w K mg base 1 "way_back" (spWay K) [] := by
  obtain ⟨fd, F⟩ := T.f_way_back
  refine calN F T.g_way_back sc_way_back (F.bindsN fun _ _ _ _ _ _ us hl => match us, hl with | [_, _], _ => rfl) len2 (fun cdv A outer s H vs Q E hr h => ?_)
  refine ⟨_, (pss_cons (ps_set (i := 2) sc_way_back.nd rfl (by first | exact Or.inl rfl | exact Or.inr rfl) (pe_lst pa_nil))
      (pss_cons (ps_while PassesOwn.never (pt_cmpR op_notN (pe_dget (hu_of hr) (pv 0) (pv 1) (fun _ _ => rfl)) pe_non (nomark _))
      (pss_cons (ps_asg (pe_dget (hu_of hr) (pv 0) (pv 1) (fun _ _ => rfl)) (pg_tup (by rfl) (pgs_cons (pg_name (i := 3) sc_way_back.nd rfl (by first | exact Or.inl rfl | exact Or.inr rfl)) (pgs_cons (pg_name (i := 4) sc_way_back.nd rfl (by first | exact Or.inl rfl | exact Or.inr rfl)) (pgs_cons (pg_name (i := 5) sc_way_back.nd rfl (by first | exact Or.inl rfl | exact Or.inr rfl)) pgs_nil)))))
      (pss_cons (ps_expr (pe_bm PySem.F.plainAttrs_list PySem.F.slot_list_append PySem.F.type_list_append mt_append (pv 2) (pa_cons (pe_tup (pa_cons (pv 4) (pa_cons (pv 5) pa_nil))) pa_nil)))
      (pss_one (ps_set (i := 1) sc_way_back.nd rfl (by first | exact Or.inl rfl | exact Or.inr rfl) (pv 3))))))
      (pss_one (ps_ret (pe_revL (pv 2)))))), ?_⟩
  -- slots: 0:met 1:place 2:taken 3:before 4:arc 5:turn
  obtain ⟨x, y, rfl, D, S, tr, mv, St, place, rfl, rfl, hD, trk, mvk, hpl, ltr, q⟩ := h
  have lin : 2000 < sizeLine := by rw [sizeLine_eq]; omega
  refine ⟨Nat.zero_le _, fun L hL => ?_⟩
  have x1 : Ext H (upd H L (.lst [])) := Ext.upd hL
  refine ⟨fun m σ H' => ∃ (cur : Int) (es : List Ent) (vs : List V) (v3 v4 v5 : Option V), σ = [some (.ref D), some (.int cur), some (.ref L), v3, v4, v5] ∧ Ext H H' ∧ H' L = some (.lst vs) ∧ A2 (PStepV H') vs (es.map stp).reverse ∧ Seg es cur place ∧ m ≤ tr.length ∧ es.Sublist (tr.drop m) ∧ cur ∈ ksF S (tr.take m),
    ⟨tr.length, place, [], [], _, _, _, rfl, x1, upd_same, .nil, .nil _, Nat.le_refl _, List.nil_sublist _, by rw [List.take_length]; exact hpl⟩, ?_⟩
  rintro m σ H2 ⟨cur, es, vs, v3, v4, v5, rfl, x2, hl, av, sg, hm, sub, hcur⟩
  have hc : cur ∈ ksF S tr := by
    rcases List.mem_append.mp hcur with z | z
    · exact List.mem_append_left _ z
    · obtain ⟨e, he, rfl⟩ := List.mem_map.mp z
      exact List.mem_append_right _ (List.mem_map.mpr ⟨e, List.mem_of_mem_take he, rfl⟩)
  have hget : ∀ H', Ext H H' → DGet H' D (.int cur) (some (mv (Sum.inl cur))) := fun H' e => .inl ⟨_, Sum.inl cur, .inl (e _ _ hD), rfl, by rw [dg_val, if_pos (mem_ik.mpr hc)]⟩
  refine ⟨_, rfl, _, rfl, D, _, rfl, hget _ x2, rfl, _, rfl, ?_⟩
  by_cases hS : cur ∈ S
  · rw [mvk.1 cur hS]
    refine iteF ⟨_, rfl, L, _, rfl, .of hl, fun p hp => q p vs.reverse es cur _ (x2.non hp) (x2.trans (Ext.upd hp)) upd_same ?_ hS sg (sub.trans (List.drop_sublist _ _))⟩
    have := (av.imp fun v x z => z.td (Td.of (Ext.upd (o := .lst vs.reverse) hp))).rev
    rwa [List.reverse_reverse] at this
  · have hcur' : cur ∈ (tr.take m).map Ent.k := (List.mem_append.mp hcur).resolve_left hS
    obtain ⟨e, he, rfl⟩ := List.mem_map.mp hcur'
    obtain ⟨i, hi⟩ := List.mem_iff_getElem?.mp he
    have im : i < m := by
      have := (List.getElem?_eq_some_iff.mp hi).1
      rw [List.length_take] at this
      omega
    have hie : tr[i]? = some e := by
      rw [List.getElem?_take, if_pos im] at hi
      exact hi
    obtain ⟨mm, b, q1, q2, q3⟩ := mvk.2 e (List.mem_of_getElem? hie)
    obtain ⟨t1, t2, t3⟩ := trk i e hie
    rw [q1]
    refine iteT ⟨fun σ' H' => ∃ m', m' < m ∧ ∃ (cur : Int) (es : List Ent) (vs : List V) (v3 v4 v5 : Option V), σ' = [some (.ref D), some (.int cur), some (.ref L), v3, v4, v5] ∧ Ext H H' ∧ H' L = some (.lst vs) ∧ A2 (PStepV H') vs (es.map stp).reverse ∧ Seg es cur place ∧ m' ≤ tr.length ∧ es.Sublist (tr.drop m') ∧ cur ∈ ksF S (tr.take m'), fun σ' H' z => z, ?_⟩
    refine ⟨_, rfl, _, rfl, D, _, rfl, hget _ x2, mm, _, q1, .of (x2 _ _ q2), rfl, _, _, rfl, _, _, rfl, _, _, rfl, rfl, ?_⟩
    have les : vs.length ≤ 1000 := by
      have h1 := av.len
      rw [List.length_reverse, List.length_map] at h1
      have h2 := sub.length_le
      rw [List.length_drop] at h2
      omega
    refine ⟨_, rfl, .inl ⟨rfl, _, .of hl⟩, _, rfl, _, rfl, by show 2 ≤ sizeLine; omega, fun m2 hm2 => ?_⟩
    have y1 : Ext H2 (upd H2 m2 (.tup [.ref b, .int e.t])) := Ext.upd hm2
    have hl3 := y1 _ _ hl
    have td : Td (upd H2 m2 (.tup [.ref b, .int e.t])) (upd (upd H2 m2 (.tup [.ref b, .int e.t])) L (.lst (vs ++ [.ref m2]))) := Td.put hl3 (by intro _ z; cases z)
    refine ⟨L, _, _, rfl, rfl, hl3, by omega, _, rfl, i, im, e.pr, e :: es, vs ++ [.ref m2], _, _, _, rfl, (x2.trans y1).put hL, upd_same, ?_, .cons sg, by omega, ?_, t2⟩
    · rw [List.map_cons, List.reverse_cons]
      exact (av.imp fun v x z => (z.td (Td.of y1)).td td).app (A2.one ⟨m2, b, rfl, td _ _ upd_same, td _ _ (y1 _ _ (x2 _ _ q3))⟩)
    · obtain ⟨hil, hie'⟩ := List.getElem?_eq_some_iff.mp hie
      rw [List.drop_eq_getElem_cons hil, hie']
      refine List.Sublist.cons₂ _ (sub.trans ?_)
      have : tr.drop m = (tr.drop (i + 1)).drop (m - (i + 1)) := by
        rw [List.drop_drop]
        congr 1
        omega
      rw [this]
      exact List.drop_sublist _ _
end
end Sv
namespace Sv
open PySem PySem.Spec PyProof.Rows L2
/-! ### path, least_free, value -/
/-- a way from a source to -1 by the steps St -/
structure Way (N : ND) (St : Int → List Stp) (es : List Ent) : Prop where
  ex : ∃ tr u, TrOk St N.S tr ∧ u ∈ N.S ∧ Seg es u (-1) ∧ es.Sublist tr
/-- a closed set without -1 -/
structure Shut (N : ND) (St : Int → List Stp) : Prop where
  ex : ∃ ks : List Int, (∀ k ∈ N.S, k ∈ ks) ∧ Clo St ks ∧ (∀ k ∈ ks, k ∈ Uni N) ∧ ¬ (-1 : Int) ∈ ks
def lfStep (N : ND) (f : Ak → Int) (best : Option Int) (s : Ak × Int) : Option Int :=
  match best with
  | none => if s.2 = 1 then freeF N f s.1 else some (f s.1)
  | some b => match (if s.2 = 1 then freeF N f s.1 else some (f s.1)) with
    | none => some b
    | some r => if r < b then some r else some b
def lfF (N : ND) (f : Ak → Int) (ps : List (Ak × Int)) : Option Int := ps.foldl (lfStep N f) none
def spPath (K : PySem.W.Frag) : Sp := sp1 fun x H Q => ∃ N p dx ls lk dr dt dn tv f, x = .ref p ∧ N.Ok ∧ NetC K H N p dx ls lk dr dt dn tv ∧ H dn = some (numV N f) ∧ H dr = some (.dT (dA N.As fun a => oV (N.room a))) ∧
  (∀ H', Ext H H' → Shut N (stepsF N f) → Q .non H') ∧ (∀ L vs es H', Ext H H' → H' L = some (.lst vs) → A2 (PStepV H') vs (List.map stp es) → Way N (stepsF N f) es → Q (.ref L) H')
def spLF (K : PySem.W.Frag) : Sp := sp2 fun x y H Q => ∃ N p dx ls lk dr dt dn tv f L vs ps, x = .ref p ∧ y = .ref L ∧ NetC K H N p dx ls lk dr dt dn tv ∧ H dn = some (numV N f) ∧ SqL K H L vs ∧ A2 (PStepV H) vs ps ∧ (∀ s ∈ ps, s.1 ∈ N.As) ∧ Q (oV (lfF N f ps)) H
theorem ksF_len {N : ND} {St : Int → List Stp} {tr : List Ent} (h : (ksF N.S tr).Nodup) (hu : ∀ k ∈ ksF N.S tr, k ∈ Uni N) : tr.length ≤ N.W.n.toNat + 1 := by
  have := nodup_le _ _ h hu
  rw [uni_len] at this
  unfold ksF at this
  rw [List.length_append, List.length_map] at this
  omega
section
variable {P : Program} {w : World} {K : PySem.W.Frag} {mg : PySem.Str → Option Value} {base : Heap}
theorem sc_Network_path : FnScope ["self", "met", "sink"] ["self"] (defScope s_Network_path) := ⟨rfl, rfl, rfl, by decide +kernel, rfl, by decide +kernel, by decide +kernel⟩
theorem mt_Network_path (T : Txt K mg) : C8.Met P w K mg base 4 (He.ga K "Network") "path" (spPath K) [] := by
  obtain ⟨fd, F⟩ := T.f_Network_path
  refine metN T.c_Network T.m_Network_path F sc_Network_path (F.bindsN fun _ _ _ _ _ _ us hl => match us, hl with | [_], _ => rfl) len1 (fun cdv A outer s H vs Q E hr h => ?_)
  refine ⟨_, (pss_cons (ps_set (i := 1) sc_Network_path.nd rfl (by first | exact Or.inl rfl | exact Or.inr rfl) (C8.pe_mt (mt_Network_met_from T) hr (by decide) (pv 0) (pa_cons (pe_fld (pv 0) rfl) pa_nil)))
      (pss_cons (ps_for PassesOwn.never rfl (pi_list (pe_fld (pv 0) rfl)) (pg_name (i := 2) sc_Network_path.nd rfl (by first | exact Or.inl rfl | exact Or.inr rfl))
      (pss_one (ps_if (pt_cmp (pc_din (hu_of hr) (pv 2) (pv 1))) (pss_one (ps_ret (C8.pe_c (c_way_back T) hr (by decide) rfl (pa_cons (pv 1) (pa_cons (pv 2) pa_nil)))))
      pss_nil)))
      (pss_one (ps_ret pe_non)))), ?_⟩
  -- slots: 0:self 1:met 2:sink
  obtain ⟨x, rfl, N, p, dx, ls, lk, dr, dt, dn, tv, f, rfl, nok, c, hn, hdr, q1, q2⟩ := h
  have n1 := nok.w.n1
  refine ⟨_, rfl, p, dx, _, rfl, c.ins, rfl, _, rfl, p, _, dx, _, _, rfl, c.ins, T.c_Network, T.n_Network_sources, rfl, _, _, rfl, N, p, dx, ls, lk, dr, dt, dn, tv, f, ls, rfl, rfl, nok, c, hn, hdr, c.src, fun D tr mv H1 _ x1 hD trk mvk clo nd un => ?_⟩
  have c1 := c.ext x1
  have ltr := ksF_len (St := stepsF N f) nd un
  refine ⟨_, rfl, p, _, dx, _, _, rfl, c1.ins, T.c_Network, T.n_Network_sinks, rfl, lk, rfl, ⟨_, c1.snk⟩, for_list (K := K) (a := lk) (xs := [.int (-1)]) (fun i σ H' => H' = H1 ∧ (0 < i → ¬ (-1 : Int) ∈ ksF N.S tr) ∧ ∃ v, σ = [some (.ref p), some (.ref D), v]) ⟨rfl, fun h => absurd h (Nat.lt_irrefl _), _, rfl⟩ (fun i σ H' _ z => by rw [z.1]; exact c1.snk) ?_ ?_⟩
  · rintro i v σ H2 hi ⟨rfl, _, v2, rfl⟩
    have hi0 : i = 0 := by
      have := (List.getElem?_eq_some_iff.mp hi).1
      rw [List.length_singleton] at this
      omega
    subst hi0
    cases hi
    refine ⟨_, rfl, _, rfl, D, _, rfl, DGet.k (k := Sum.inl (-1)) hD, _, rfl, ?_⟩
    rw [dg_val]
    by_cases hm : (-1 : Int) ∈ ksF N.S tr
    · rw [if_pos (mem_ik.mpr hm)]
      refine iteT ⟨_, rfl, _, rfl, _, _, rfl, D, N.S, tr, mv, stepsF N f, -1, rfl, rfl, hD, trk, mvk, hm, by omega, fun L vs es u H' _ x2 hL av hu sg sub => ?_⟩
      exact q2 L vs es H' (x1.trans x2) hL av ⟨tr, u, trk, hu, sg, sub⟩
    · rw [if_neg fun z => hm (mem_ik.mp z)]
      exact iteF ⟨rfl, fun _ => hm, _, rfl⟩
  · rintro σ H2 ⟨rfl, hm, v2, rfl⟩
    exact q1 _ x1 ⟨ksF N.S tr, fun k hk => List.mem_append_left _ hk, clo, un, hm (by show 0 < 1; omega)⟩
theorem sc_Network_least_free : FnScope ["self", "taken", "best", "arc", "turn", "room"] ["self", "taken"] (defScope s_Network_least_free) := ⟨rfl, rfl, rfl, by decide +kernel, rfl, by decide +kernel, by decide +kernel⟩
theorem mt_Network_least_free (T : Txt K mg) : C8.Met P w K mg base 2 (He.ga K "Network") "least_free" (spLF K) [] := by
  obtain ⟨fd, F⟩ := T.f_Network_least_free
  refine metN T.c_Network T.m_Network_least_free F sc_Network_least_free (F.bindsN fun _ _ _ _ _ _ us hl => match us, hl with | [_, _], _ => rfl) len2 (fun cdv A outer s H vs Q E hr h => ?_)
  refine ⟨_, (pss_cons (ps_set (i := 2) sc_Network_least_free.nd rfl (by first | exact Or.inl rfl | exact Or.inr rfl) pe_non)
      (pss_cons (ps_for PassesOwn.never rfl (pi_list (pv 1)) (pg_tup (by rfl) (pgs_cons (pg_name (i := 3) sc_Network_least_free.nd rfl (by first | exact Or.inl rfl | exact Or.inr rfl)) (pgs_cons (pg_name (i := 4) sc_Network_least_free.nd rfl (by first | exact Or.inl rfl | exact Or.inr rfl)) pgs_nil)))
      (C8.pss_cut (ps_set (i := 5) sc_Network_least_free.nd rfl (by first | exact Or.inl rfl | exact Or.inr rfl) (pe_ifExp (pt_cmpR op_eq (pv 4) pe_int (nomark _)) (C8.pe_mt (mt_Network_free T) hr (by decide) (pv 0) (pa_cons (pv 3) pa_nil)) (pe_dget (hu_of hr) (pe_fld (pv 0) rfl) (pv 3) (fun _ _ => rfl))))
      (pss_one (ps_if (PW.pt (pw_or (pt_cmpR op_isN (pv 2) pe_non (nomark _)) (pw_or1 (PW.pt (pw_and (pt_cmpR op_notN (pv 5) pe_non (nomark _)) (pw_and1 (pt_cmpR op_lt (pv 5) (pv 2) (nomark _)))))))) (pss_one (ps_set (i := 2) sc_Network_least_free.nd rfl (by first | exact Or.inl rfl | exact Or.inr rfl) (pv 5)))
      pss_nil))))
      (pss_one (ps_ret (pv 2))))), ?_⟩
  -- slots: 0:self 1:taken 2:best 3:arc 4:turn 5:room
  obtain ⟨x, y, rfl, N, p, dx, ls, lk, dr, dt, dn, tv, f, L, vs, ps, rfl, rfl, c, hn, hL, av, hps, q⟩ := h
  refine ⟨_, rfl, L, rfl, ⟨_, hL⟩, for_list (K := K) (a := L) (xs := vs) (fun i σ H' => H' = H ∧ ∃ v3 v4 v5, σ = [some (.ref p), some (.ref L), some (oV (lfF N f (ps.take i))), v3, v4, v5]) ⟨rfl, _, _, _, rfl⟩ (fun i σ H' _ z => by rw [z.1]; exact hL) ?_ ?_⟩
  · rintro i v σ H2 hi ⟨rfl, v3, v4, v5, rfl⟩
    obtain ⟨s, hs, m, b, rfl, hm, hb⟩ := av.get hi
    have ha := hps s (List.mem_of_getElem? hs)
    have ef : lfF N f (ps.take (i + 1)) = lfStep N f (lfF N f (ps.take i)) s := by
      unfold lfF
      rw [List.take_add_one, hs, List.foldl_append]
      rfl
    rw [ef]
    generalize lfF N f (ps.take i) = best
    refine ⟨m, _, rfl, .of hm, rfl, _, _, rfl, _, _, rfl, rfl, ?_⟩
    refine ⟨fun σ' H' => H' = H2 ∧ σ' = [some (.ref p), some (.ref L), some (oV best), some (.ref b), some (.int s.2), some (oV (if s.2 = 1 then freeF N f s.1 else some (f s.1)))], ?_, ?_⟩
    · refine ⟨_, rfl, rfl, _, rfl, ?_⟩
      by_cases e : s.2 = 1
      · rw [decide_eq_true (show V.int s.2 = V.int 1 by rw [e]), if_pos e]
        exact iteT ⟨_, rfl, p, dx, _, rfl, c.ins, rfl, _, rfl, _, _, rfl, N, p, dx, ls, lk, dr, dt, dn, tv, f, b, s.1, rfl, rfl, c, hn, hb, ha, rfl, rfl⟩
      · rw [decide_eq_false (show ¬ V.int s.2 = V.int 1 from fun z => e (V.int.inj z)), if_neg e]
        exact iteF ⟨_, rfl, p, _, dx, _, _, rfl, c.ins, T.c_Network, T.n_Network_numbers, rfl, _, rfl, dn, .int (f s.1), rfl, .inr ⟨_, aK s.1, b, .inl hn, rfl, hb, by rw [dA_val, if_pos ha]⟩, rfl, rfl⟩
    · rintro σ' H' ⟨rfl, rfl⟩
      unfold lfStep
      generalize (if s.2 = 1 then freeF N f s.1 else some (f s.1)) = room
      refine ⟨_, rfl, rfl, _, rfl, ?_⟩
      cases best with
      | none => exact iteT ⟨_, rfl, rfl, _, _, _, rfl⟩
      | some bb =>
        refine iteF ⟨_, rfl, rfl, _, rfl, ?_⟩
        cases room with
        | none => exact iteF (iteF ⟨rfl, _, _, _, rfl⟩)
        | some r =>
          refine iteT ⟨_, rfl, _, rfl, _, _, rfl, rfl, _, rfl, ?_⟩
          by_cases lt : r < bb
          · rw [decide_eq_true lt]
            refine iteT ⟨_, rfl, rfl, some (.ref b), some (.int s.2), some (oV (some r)), ?_⟩
            show _ = [some (V.ref p), some (V.ref L), some (oV (if r < bb then some r else some bb)), _, _, _]
            rw [if_pos lt]
            rfl
          · rw [decide_eq_false lt]
            refine iteF ⟨rfl, some (.ref b), some (.int s.2), some (oV (some r)), ?_⟩
            show _ = [some (V.ref p), some (V.ref L), some (oV (if r < bb then some r else some bb)), _, _, _]
            rw [if_neg lt]
  · rintro σ H2 ⟨rfl, v3, v4, v5, rfl⟩
    rw [av.len, List.take_length]
    exact ⟨_, rfl, q⟩
end
end Sv
namespace Sv
open PySem PySem.Spec PyProof.Rows L2
/-! ### barred_row -/
theorem upd_comm {H : Hp} {a b : Addr} {x y : HO} (n : a ≠ b) : upd (upd H a x) b y = upd (upd H b y) a x := by
  funext c
  by_cases h1 : c = b
  · rw [h1, upd_same, upd_ne n.symm, upd_same]
  · rw [upd_ne h1]
    by_cases h2 : c = a
    · rw [h2, upd_same, upd_same]
    · rw [upd_ne h2, upd_ne h2, upd_ne h1]
theorem MetI.add {H H' : Hp} {N : ND} {St : Int → List Stp} {D L mm b : Addr} {tr : List Ent} {mv : Key → V} (I : MetI H N St D L tr mv H') (nDL : L ≠ D) (hD : H D = none) (hL0 : H L = none) (hmm : H' mm = none) (e : Ent) (h1 : (e.a, e.t, e.k) ∈ St e.pr) (h2 : e.pr ∈ ksF N.S tr) (hq : ¬ e.k ∈ ksF N.S tr) (hu : e.k ∈ Uni N) (hb : H' b = some (.tup ((aK e.a).map kV))) :
    MetI H N St D L (tr ++ [e]) (fun y => if y = Sum.inl e.k then .ref mm else mv y) (upd (upd (upd H' mm (.tup [.int e.pr, .ref b, .int e.t])) D (.dK (putK (dG (ik (ksF N.S tr)) mv) (Sum.inl e.k) (.ref mm)))) L (.lst ((ksF N.S tr).map V.int ++ [.int e.k]))) := by
  have y1 : Ext H' (upd H' mm (.tup [.int e.pr, .ref b, .int e.t])) := Ext.upd hmm
  have I4 := I.ext y1
  have hl5 : upd (upd H' mm (.tup [.int e.pr, .ref b, .int e.t])) D (.dK (putK (dG (ik (ksF N.S tr)) mv) (Sum.inl e.k) (.ref mm))) L = some (.lst ((ksF N.S tr).map V.int)) := by rw [upd_ne nDL]; exact I4.l
  have t2 : Td (upd H' mm (.tup [.int e.pr, .ref b, .int e.t])) (upd (upd (upd H' mm (.tup [.int e.pr, .ref b, .int e.t])) D (.dK (putK (dG (ik (ksF N.S tr)) mv) (Sum.inl e.k) (.ref mm)))) L (.lst ((ksF N.S tr).map V.int ++ [.int e.k]))) := (Td.put I4.d (by intro _ z; cases z)).trans (Td.put hl5 (by intro _ z; cases z))
  have td1 := (Td.of y1).trans t2
  have eks := ksF_snoc N.S tr e
  refine ⟨(I4.x.put hD).put hL0, ?_, ?_, I.trk.snoc h1 h2 hq, ⟨fun k hk => ?_, fun e' he => ?_⟩, ?_, ?_⟩
  · rw [upd_ne nDL.symm, upd_same, dg_new _ (fun z => hq (mem_ik.mp z)), ik_snoc, eks]
  · rw [upd_same, eks, List.map_append]
    rfl
  · have : ¬ (Sum.inl k : Key) = Sum.inl e.k := fun z => hq (by cases z; exact List.mem_append_left _ hk)
    exact (if_neg this).trans (I.mvk.1 k hk)
  · rcases List.mem_append.mp he with he | he
    · have : ¬ (Sum.inl e'.k : Key) = Sum.inl e.k := fun z => hq (by
        have z' : e'.k = e.k := Sum.inl.inj z
        rw [← z']
        exact List.mem_append_right _ (List.mem_map.mpr ⟨e', he, rfl⟩))
      obtain ⟨m1, b1, q1, q2, q3⟩ := I.mvk.2 e' he
      exact ⟨m1, b1, (if_neg this).trans q1, td1 _ _ q2, td1 _ _ q3⟩
    · rw [List.mem_singleton.mp he]
      exact ⟨mm, b, if_pos rfl, t2 _ _ upd_same, td1 _ _ hb⟩
  · rw [eks]
    exact nodup_snoc I.nd hq
  · rw [eks]
    intro k hk
    rcases List.mem_append.mp hk with hk | hk
    · exact I.un k hk
    · rw [List.mem_singleton.mp hk]
      exact hu
def stepsN (N : ND) (k : Int) : List Stp := (N.As.filter fun a => decide ((N.tip a).1 = k) && decide (N.room a = none)).map fun a => (a, 1, (N.tip a).2)
theorem stepN_mem {N : ND} {k : Int} {s : Stp} : s ∈ stepsN N k ↔ s.1 ∈ N.As ∧ (N.tip s.1).1 = k ∧ N.room s.1 = none ∧ s.2.1 = 1 ∧ s.2.2 = (N.tip s.1).2 := by
  unfold stepsN
  rw [List.mem_map]
  constructor
  · rintro ⟨a, ha, rfl⟩
    rw [List.mem_filter] at ha
    obtain ⟨h1, h2⟩ := ha
    simp only [Bool.and_eq_true, decide_eq_true_eq] at h2
    exact ⟨h1, h2.1, h2.2, rfl, rfl⟩
  · rintro ⟨h1, h2, h3, h4, h5⟩
    refine ⟨s.1, List.mem_filter.mpr ⟨h1, by simp [h2, h3]⟩, ?_⟩
    rw [← h4, ← h5]
def spBar (K : PySem.W.Frag) : Sp := sp1 fun x H Q => ∃ N p dx ls lk dr dt dn tv, x = .ref p ∧ N.Ok ∧ NetC K H N p dx ls lk dr dt dn tv ∧ H dr = some (.dT (dA N.As fun a => oV (N.room a))) ∧
  (∀ H', Ext H H' → Shut N (stepsN N) → Q .non H') ∧ (∀ t es H', Ext H H' → Way N (stepsN N) es → Q (.ref t) H')
section
variable {P : Program} {w : World} {K : PySem.W.Frag} {mg : PySem.Str → Option Value} {base : Heap}
theorem sc_Network_barred_row : FnScope ["self", "met", "place", "todo", "at", "arc", "before", "behind", "sink", "turn"] ["self"] (defScope s_Network_barred_row) := ⟨rfl, rfl, rfl, by decide +kernel, rfl, by decide +kernel, by decide +kernel⟩
theorem mt_Network_barred_row (T : Txt K mg) : C8.Met P w K mg base 4 (He.ga K "Network") "barred_row" (spBar K) [] := by
  obtain ⟨fd, F⟩ := T.f_Network_barred_row
  refine metN T.c_Network T.m_Network_barred_row F sc_Network_barred_row (F.bindsN fun _ _ _ _ _ _ us hl => match us, hl with | [_], _ => rfl) len1 (fun cdv A outer s H vs Q E hr h => ?_)
  refine ⟨_, (pss_cons (ps_setDc (i := 1) (own := [("place", 2)]) (g := gName 2) (tt := tYes) rfl sc_Network_barred_row.nd rfl rfl (sw_trueD rfl rfl rfl (by decide +kernel)) (pi_any (own_it T) (hr.mono (by decide)) (pe_fld (pv 0) rfl)) (blkOk_by (own := [("place", 2)]) (N := ["self", "met", "place", "todo", "at", "arc", "before", "behind", "sink", "turn"]) (sc := defScope s_Network_barred_row) (by decide +kernel)) (fun _ _ _ _ _ => pg_name (i := 2) sc_Network_barred_row.nd rfl (by first | exact Or.inl rfl | exact Or.inr rfl)) (fun _ _ _ _ _ => pts_nil) (fun _ _ _ _ _ => (pv 2)) (fun _ _ _ _ _ => pe_non))
      (pss_cons (ps_set (i := 3) sc_Network_barred_row.nd rfl (by first | exact Or.inl rfl | exact Or.inr rfl) (pe_callTy call_list_of (by rfl) T.b_list (by decide +kernel) (pa_cons (pe_fld (pv 0) rfl) pa_nil)))
      (pss_cons (ps_set (i := 4) sc_Network_barred_row.nd rfl (by first | exact Or.inl rfl | exact Or.inr rfl) pe_int)
      (pss_cons (ps_while PassesOwn.never (pt_cmpR op_lt (pv 4) (pe_callB call_len (by rfl) T.b_len (by decide +kernel) (pa_cons (pv 3) pa_nil)) (nomark _))
      (pss_cons (ps_lock (ps_for PassesOwn.never rfl (pi_keys (pe_fld (pv 0) rfl)) (pg_name (i := 5) sc_Network_barred_row.nd rfl (by first | exact Or.inl rfl | exact Or.inr rfl))
      (pss_cons (ps_asg (pe_dget (hu_of hr) (pe_fld (pv 0) rfl) (pv 5) (fun _ _ => rfl)) (pg_tup (by rfl) (pgs_cons (pg_name (i := 6) sc_Network_barred_row.nd rfl (by first | exact Or.inl rfl | exact Or.inr rfl)) (pgs_cons (pg_name (i := 7) sc_Network_barred_row.nd rfl (by first | exact Or.inl rfl | exact Or.inr rfl)) pgs_nil))))
      (pss_one (ps_if (PW.pt (pw_and (pt_cmpR op_eq (pv 6) (pe_ix ix_list (pv 3) (pv 4) (fun _ _ => rfl)) (nomark _)) (pw_and (pt_cmpR op_isN (pe_dget (hu_of hr) (pe_fld (pv 0) rfl) (pv 5) (fun _ _ => rfl)) pe_non (nomark _)) (pw_and1 (pt_cmp (pc_dnotin (hu_of hr) (pv 7) (pv 1))))))) (pss_cons (ps_dput (hu_of hr) (pv 1) (pv 7) (pe_tup (pa_cons (pv 6) (pa_cons (pv 5) (pa_cons pe_int pa_nil)))) rfl)
      (pss_one (ps_expr (pe_bm PySem.F.plainAttrs_list PySem.F.slot_list_append PySem.F.type_list_append mt_append (pv 3) (pa_cons (pv 7) pa_nil)))))
      pss_nil)))))
      (pss_one (ps_aug (i := 4) sc_Network_barred_row.nd rfl (by first | exact Or.inl rfl | exact Or.inr rfl) pe_int ip_add))))
      (pss_cons (ps_for PassesOwn.never rfl (pi_list (pe_fld (pv 0) rfl)) (pg_name (i := 8) sc_Network_barred_row.nd rfl (by first | exact Or.inl rfl | exact Or.inr rfl))
      (pss_one (ps_if (pt_cmp (pc_din (hu_of hr) (pv 8) (pv 1))) (pss_one (ps_ret (pe_callTy call_tuple_of (by rfl) T.b_tuple (by decide +kernel) (pa_cons (pe_lc (own := [("arc", 5), ("turn", 9)]) (g := _) (tt := tYes) rfl sc_Network_barred_row.nd (pi_list (C8.pe_c (c_way_back T) hr (by decide) rfl (pa_cons (pv 1) (pa_cons (pv 8) pa_nil)))) (blkOk_by (own := [("arc", 5), ("turn", 9)]) (N := ["self", "met", "place", "todo", "at", "arc", "before", "behind", "sink", "turn"]) (sc := defScope s_Network_barred_row) (by decide +kernel)) (fun _ _ _ _ _ => pg_tupK K rfl (n := 2) (by rfl) (pgs_cons (pg_name (i := 5) sc_Network_barred_row.nd rfl (by first | exact Or.inl rfl | exact Or.inr rfl)) (pgs_cons (pg_name (i := 9) sc_Network_barred_row.nd rfl (by first | exact Or.inl rfl | exact Or.inr rfl)) pgs_nil))) (fun _ _ _ _ _ => pts_nil) (fun _ _ _ _ _ => (pv 5))) pa_nil))))
      pss_nil)))
      (pss_one (ps_ret pe_non))))))), ?_⟩
  -- slots: 0:self 1:met 2:place 3:todo 4:at 5:arc 6:before 7:behind 8:sink 9:turn
  obtain ⟨x, rfl, N, p, dx, ls, lk, dr, dt, dn, tv, rfl, nok, c, hdr, q1, q2⟩ := h
  have wok := nok.w
  have n1 := wok.n1
  have hs := c.src
  have lin : 2000 < sizeLine := by rw [sizeLine_eq]; omega
  have lS : N.S.length ≤ 24 := by
    have := nodup_le N.S (below N.W.n) nok.nd fun k hk => mem_below.mpr (nok.ss k hk)
    rw [below_len] at this
    omega
  obtain ⟨J, hw⟩ := ints_itb (.inl hs)
  refine ⟨_, rfl, p, _, dx, _, _, rfl, c.ins, T.c_Network, T.n_Network_sources, rfl, ls, _, J, rfl, hw, fun D hD => dc_any hw hD (fun i H' => H' D = some (.dK (dG (ik (N.S.take i)) fun _ => .non)) ∧ Ext H H') ⟨upd_same, Ext.upd hD⟩ (fun i H' e => e.2) (fun i x H' hi e => ?_) fun H1 e => ?_⟩
  · obtain ⟨hk, x1⟩ := e
    obtain ⟨k, hk', rfl⟩ := map_at hi
    have il := (List.getElem?_eq_some_iff.mp hk').1
    refine ⟨rfl, _, rfl, _, Sum.inl k, rfl, hk, by rw [dg_len, List.length_map, List.length_take]; omega, ?_, x1.put hD⟩
    rw [upd_same, dg_newc (fun z => nodup_take nok.nd hk' (mem_ik.mp z)), ik_snoc, List.take_add_one, hk']
    rfl
  · obtain ⟨hk, x1⟩ := e
    rw [List.length_map, List.take_length] at hk
    refine ⟨_, rfl, p, _, dx, _, _, rfl, x1 _ _ c.ins, T.c_Network, T.n_Network_sources, rfl, ls, _, rfl, .inl (hs.ext x1), fun L hL => ?_⟩
    have nDL : L ≠ D := neD hk hL
    have hL0 : H L = none := x1.non hL
    have I0 : MetI H N (stepsN N) D L [] (fun _ => .non) (upd H1 L (.lst (N.S.map V.int))) := by
      have e : ksF N.S [] = N.S := List.append_nil _
      refine ⟨x1.put hL0, ?_, ?_, fun i e h => by simp at h, ⟨fun _ _ => rfl, fun e h => by cases h⟩, by rw [e]; exact nok.nd, fun k hk => ?_⟩
      · rw [upd_ne nDL.symm, e]
        exact hk
      · rw [upd_same, e]
      · rw [e] at hk
        exact List.mem_cons_of_mem _ (mem_below.mpr (nok.ss k hk))
    have nrD : D ≠ dr := (ne_of_none hdr hD).symm
    have nrL : L ≠ dr := (ne_of_none hdr hL0).symm
    refine ⟨fun m σ H' => ∃ (i : Nat) (tr : List Ent) (mv : Key → V) (v2 v5 v6 v7 v8 v9 : Option V), σ = [some (.ref p), some (.ref D), v2, some (.ref L), some (.int (i : Int)), v5, v6, v7, v8, v9] ∧ MetI H N (stepsN N) D L tr mv H' ∧ i ≤ (ksF N.S tr).length ∧
      (∀ k ∈ (ksF N.S tr).take i, ∀ s ∈ stepsN N k, s.2.2 ∈ ksF N.S tr) ∧ m = N.W.n.toNat + 1 - i, ⟨_, 0, [], _, _, _, _, _, _, _, rfl, I0, Nat.zero_le _, (by intro k hk; simp at hk), rfl⟩, ?_⟩
    rintro m σ H2 ⟨i, tr, mv, v2, v5, v6, v7, v8, v9, rfl, I, hi, clo, em⟩
    refine ⟨_, rfl, _, rfl, _, _, rfl, .inl ⟨_, .of I.l, rfl⟩, _, _, rfl, rfl, _, rfl, ?_⟩
    rw [List.length_map]
    rcases Nat.lt_or_ge i (ksF N.S tr).length with lt | ge
    · rw [decide_eq_true (show (i : Int) < ((ksF N.S tr).length : Nat) by omega)]
      refine iteT ⟨fun σ' H' => ∃ m', m' < m ∧ ∃ (i : Nat) (tr : List Ent) (mv : Key → V) (v2 v5 v6 v7 v8 v9 : Option V), σ' = [some (.ref p), some (.ref D), v2, some (.ref L), some (.int (i : Int)), v5, v6, v7, v8, v9] ∧ MetI H N (stepsN N) D L tr mv H' ∧ i ≤ (ksF N.S tr).length ∧
        (∀ k ∈ (ksF N.S tr).take i, ∀ s ∈ stepsN N k, s.2.2 ∈ ksF N.S tr) ∧ m' = N.W.n.toNat + 1 - i, fun σ' H' z => z, ?_⟩
      have hki : (ksF N.S tr)[i]? = some (ksF N.S tr)[i] := List.getElem?_eq_getElem lt
      generalize (ksF N.S tr)[i] = k0 at hki
      have ll := I.len
      refine ⟨dr, _, I.x _ _ hdr, True.intro, fun od => ?_⟩
      have hlk : upd H2 dr (.frz od (.dT (dA N.As fun a => oV (N.room a)))) dr = some (.frz od (.dT (dA N.As fun a => oV (N.room a)))) := upd_same
      have eU : upd (upd H2 dr (.frz od (.dT (dA N.As fun a => oV (N.room a))))) dr (.dT (dA N.As fun a => oV (N.room a))) = H2 := by
        rw [upd_upd]
        funext z
        by_cases hz : z = dr
        · rw [hz, upd_same]
          exact (I.x _ _ hdr).symm
        · rw [upd_ne hz]
      have cL : ∀ {H'}, H' dr = some (.frz od (.dT (dA N.As fun a => oV (N.room a)))) → Ext H (upd H' dr (.dT (dA N.As fun a => oV (N.room a)))) → NetC K H' N p dx ls lk dr dt dn tv := fun {H'} h1 h2 => by
        have z := (c.ext h2).le (Le.lock (o := od) upd_same True.intro (by intro _ _ _ z; cases z))
        rw [upd_upd] at z
        have e : upd H' dr (.frz od (.dT (dA N.As fun a => oV (N.room a)))) = H' := by
          funext y
          by_cases hy : y = dr
          · rw [hy, upd_same, h1]
          · rw [upd_ne hy]
        rw [e] at z
        exact z
      have cc := cL hlk (by rw [eU]; exact I.x)
      refine ⟨_, rfl, p, _, dx, _, _, rfl, cc.ins, T.c_Network, T.n_Network_rooms, rfl, dr, od, rfl, .inr ⟨_, hlk, ?_⟩⟩
      refine for_keys (fun j σ H' => H' dr = some (.frz od (.dT (dA N.As fun a => oV (N.room a)))) ∧ ∃ (tr' ex : List Ent) (mv' : Key → V) (v5 v6 v7 : Option V), σ = [some (.ref p), some (.ref D), v2, some (.ref L), some (.int (i : Int)), v5, v6, v7, v8, v9] ∧ tr' = tr ++ ex ∧
        MetI H N (stepsN N) D L tr' mv' (upd H' dr (.dT (dA N.As fun a => oV (N.room a)))) ∧ ∀ a ∈ N.As.take j, (N.tip a).1 = k0 → N.room a = none → (N.tip a).2 ∈ ksF N.S tr')
        ⟨hlk, tr, [], mv, _, _, _, rfl, (List.append_nil _).symm, by rw [eU]; exact I, by intro a ha; simp at ha⟩ (fun j σ H' z => z.1) ?_ ?_
      · rintro j a b σ H' hj ⟨hlk', tr', ex, mv', v5, v6, v7, rfl, rfl, I', cv⟩ hb
        have ha : a ∈ N.As := List.mem_of_getElem? hj
        have c' := cL hlk' I'.x
        obtain ⟨t, et, ht⟩ := c'.tipv a ha
        have hD' : H' D = some (.dK (dG (ik (ksF N.S (tr ++ ex))) mv')) := by
          have := I'.d
          rwa [upd_ne nrD] at this
        have hL' : H' L = some (.lst ((ksF N.S (tr ++ ex)).map V.int)) := by
          have := I'.l
          rwa [upd_ne nrL] at this
        have ks0 : ksF N.S (tr ++ ex) = ksF N.S tr ++ ex.map Ent.k := by
          unfold ksF
          rw [List.map_append, List.append_assoc]
        have hk' : (ksF N.S (tr ++ ex))[i]? = some k0 := by
          rw [ks0, List.getElem?_append_left lt]
          exact hki
        have at' : atI ((ksF N.S (tr ++ ex)).map V.int) (i : Int) = some (.int k0) := atI_nat (by rw [List.getElem?_map, hk']; rfl)
        have ll' := I'.len
        have skip : ∀ v5 v6 v7, ((N.tip a).1 = k0 → N.room a = none → (N.tip a).2 ∈ ksF N.S (tr ++ ex)) → H' dr = some (.frz od (.dT (dA N.As fun a => oV (N.room a)))) ∧ ∃ (tr' ex : List Ent) (mv' : Key → V) (w5 w6 w7 : Option V), ([some (V.ref p), some (V.ref D), v2, some (V.ref L), some (V.int (i : Int)), v5, v6, v7, v8, v9] : L2.St) = [some (.ref p), some (.ref D), v2, some (.ref L), some (.int (i : Int)), w5, w6, w7, v8, v9] ∧ tr' = tr ++ ex ∧
            MetI H N (stepsN N) D L tr' mv' (upd H' dr (.dT (dA N.As fun a => oV (N.room a)))) ∧ ∀ a ∈ N.As.take (j + 1), (N.tip a).1 = k0 → N.room a = none → (N.tip a).2 ∈ ksF N.S tr' := fun v5 v6 v7 h => by
          refine ⟨hlk', tr ++ ex, ex, mv', v5, v6, v7, rfl, rfl, I', fun a' ha' => ?_⟩
          rw [List.take_add_one, hj, List.mem_append] at ha'
          rcases ha' with z | z
          · exact cv a' z
          · simp at z
            rw [z]
            exact h
        refine ⟨_, rfl, p, _, dx, _, _, rfl, c'.ins, T.c_Network, T.n_Network_tips, rfl, _, rfl, dt, tv a, rfl, .inr ⟨_, aK a, b, c'.tips, rfl, hb, by rw [dA_val, if_pos ha]⟩, t, _, et, ht, rfl, _, _, rfl, _, _, rfl, rfl, ?_⟩
        refine ⟨_, rfl, _, rfl, _, rfl, L, _, _, _, rfl, rfl, .of hL', at', rfl, _, rfl, ?_⟩
        by_cases e1 : (N.tip a).1 = k0
        · rw [decide_eq_true (show V.int (N.tip a).1 = V.int k0 by rw [e1])]
          refine iteT ⟨_, rfl, p, _, dx, _, _, rfl, c'.ins, T.c_Network, T.n_Network_rooms, rfl, _, rfl, dr, oV (N.room a), rfl, .inr ⟨_, aK a, b, c'.rooms, rfl, hb, by rw [dA_val, if_pos ha]⟩, rfl, _, rfl, ?_⟩
          cases er : N.room a with
          | some r => exact iteF (iteF (skip _ _ _ fun _ z => by rw [er] at z; cases z))
          | none =>
            refine iteT ⟨_, rfl, _, rfl, D, _, rfl, DGet.k (k := Sum.inl (N.tip a).2) hD', _, rfl, ?_⟩
            rw [dg_val]
            by_cases hq : (N.tip a).2 ∈ ksF N.S (tr ++ ex)
            · rw [if_pos (mem_ik.mpr hq)]
              exact iteF (skip _ _ _ fun _ _ => hq)
            · rw [if_neg fun z => hq (mem_ik.mp z)]
              have sin : (a, (1 : Int), (N.tip a).2) ∈ stepsN N (N.tip a).1 := stepN_mem.mpr ⟨ha, rfl, er, rfl, rfl⟩
              have kin : (N.tip a).1 ∈ ksF N.S (tr ++ ex) := by
                rw [e1]
                exact List.mem_of_getElem? hk'
              refine iteT ⟨_, rfl, _, rfl, by show 3 ≤ sizeLine; omega, fun mm hmm => ?_⟩
              have nm : mm ≠ dr := (ne_of_none hlk' hmm).symm
              have nmD : D ≠ mm := ne_of_none hD' hmm
              have nmL : L ≠ mm := ne_of_none hL' hmm
              have hD4 : upd H' mm (.tup [.int (N.tip a).1, .ref b, .int 1]) D = some (.dK (dG (ik (ksF N.S (tr ++ ex))) mv')) := by rw [upd_ne nmD]; exact hD'
              refine ⟨_, rfl, _, rfl, D, _, rfl, DPut.k (k := Sum.inl (N.tip a).2) hD4 (by rw [dg_len, List.length_map]; omega), ?_⟩
              have hl5 : upd (upd H' mm (.tup [.int (N.tip a).1, .ref b, .int 1])) D (.dK (putK (dG (ik (ksF N.S (tr ++ ex))) mv') (Sum.inl (N.tip a).2) (.ref mm))) L = some (.lst ((ksF N.S (tr ++ ex)).map V.int)) := by rw [upd_ne nDL, upd_ne nmL]; exact hL'
              refine ⟨_, rfl, .inl ⟨rfl, _, .of hl5⟩, _, rfl, L, _, _, rfl, rfl, hl5, by rw [List.length_map]; omega, ?_⟩
              have hbU : upd H' dr (.dT (dA N.As fun a => oV (N.room a))) b = some (.tup ((aK a).map kV)) := by
                rw [upd_ne (ne_of hb hlk' (by intro z; cases z))]
                exact hb
              have I5 := I'.add nDL hD hL0 (mm := mm) (by rw [upd_ne nm]; exact hmm) ⟨(N.tip a).2, (N.tip a).1, a, 1⟩ sin kin hq (uni_tip N wok ha).2 hbU
              refine ⟨by rw [upd_ne nrL.symm, upd_ne nrD.symm, upd_ne nm.symm]; exact hlk', tr ++ (ex ++ [⟨(N.tip a).2, (N.tip a).1, a, 1⟩]), _, fun y => if y = Sum.inl (N.tip a).2 then .ref mm else mv' y, _, _, _, rfl, rfl, ?_, ?_⟩
              · rw [← List.append_assoc, upd_comm nrL, upd_comm nrD, upd_comm nm]
                exact I5
              · intro a' ha' h1 h2
                have eks := ksF_snoc N.S (tr ++ ex) ⟨(N.tip a).2, (N.tip a).1, a, 1⟩
                rw [← List.append_assoc, eks]
                rw [List.take_add_one, hj, List.mem_append] at ha'
                rcases ha' with z | z
                · exact List.mem_append_left _ (cv a' z h1 h2)
                · simp at z
                  rw [z]
                  exact List.mem_append_right _ List.mem_cons_self
        · rw [decide_eq_false (show ¬ V.int (N.tip a).1 = V.int k0 from fun z => e1 (V.int.inj z))]
          exact iteF (iteF (skip _ _ _ fun z => absurd z e1))
      · rintro σ H' ⟨hlk', tr', ex, mv', v5, v6, v7, rfl, rfl, I', cv⟩
        rw [List.take_length] at cv
        refine ⟨hlk', _, rfl, _, _, rfl, rfl, m - 1, by omega, i + 1, tr ++ ex, mv', _, _, _, _, _, _, rfl, I', ?_, fun k hk s hs => ?_, by omega⟩
        · unfold ksF
          rw [List.map_append, ← List.append_assoc, List.length_append]
          unfold ksF at lt
          omega
        · have ks0 : ksF N.S (tr ++ ex) = ksF N.S tr ++ ex.map Ent.k := by
            unfold ksF
            rw [List.map_append, List.append_assoc]
          have e1 : (ksF N.S (tr ++ ex)).take (i + 1) = (ksF N.S tr).take i ++ [k0] := by
            rw [ks0, List.take_append_of_le_length (by omega), List.take_add_one, hki]
            rfl
          rw [e1] at hk
          rcases List.mem_append.mp hk with hk | hk
          · rw [ks0]
            exact List.mem_append_left _ (clo k hk s hs)
          · rw [List.mem_singleton.mp hk] at hs
            obtain ⟨h1, h2, h3, _, h5⟩ := stepN_mem.mp hs
            rw [h5]
            exact cv s.1 h1 h2 h3
    · rw [decide_eq_false (show ¬ (i : Int) < ((ksF N.S tr).length : Nat) by omega)]
      have clo' : Clo (stepsN N) (ksF N.S tr) := fun k hk => clo k (by rw [List.take_of_length_le ge]; exact hk)
      have c2 := c.ext I.x
      have ltr := ksF_len (St := stepsN N) I.nd I.un
      refine iteF ⟨_, rfl, p, _, dx, _, _, rfl, c2.ins, T.c_Network, T.n_Network_sinks, rfl, lk, rfl, ⟨_, c2.snk⟩, for_list (K := K) (a := lk) (xs := [.int (-1)]) (fun j σ H' => H' = H2 ∧ (0 < j → ¬ (-1 : Int) ∈ ksF N.S tr) ∧ ∃ v, σ = [some (.ref p), some (.ref D), v2, some (.ref L), some (.int (i : Int)), v5, v6, v7, v, v9]) ⟨rfl, fun h => absurd h (Nat.lt_irrefl _), _, rfl⟩ (fun i σ H' _ z => by rw [z.1]; exact c2.snk) ?_ ?_⟩
      · rintro j v σ H3 hi ⟨rfl, _, v8', rfl⟩
        have hj0 : j = 0 := by
          have := (List.getElem?_eq_some_iff.mp hi).1
          rw [List.length_singleton] at this
          omega
        subst hj0
        cases hi
        refine ⟨_, rfl, _, rfl, D, _, rfl, DGet.k (k := Sum.inl (-1)) I.d, _, rfl, ?_⟩
        rw [dg_val]
        by_cases hm : (-1 : Int) ∈ ksF N.S tr
        · rw [if_pos (mem_ik.mpr hm)]
          refine iteT ⟨_, rfl, _, rfl, _, _, rfl, D, N.S, tr, mv, stepsN N, -1, rfl, rfl, I.d, I.trk, I.mvk, hm, by omega, fun L2 vs es u H' _ x2 hL2 av hu sg sub => ?_⟩
          have lvs : vs.length ≤ 1000 := by
            have h1 := av.len
            rw [List.length_map] at h1
            have h2 := sub.length_le
            omega
          refine ⟨L2, rfl, ⟨_, .of hL2⟩, fun D2 hD2 => lcD_list (fun j => (es.map stp)[j]?.map fun s => PyData.tuple [.int (s.1.1 : Nat), .str (wd s.1.2)]) hD2 (.of hL2) (by omega) (fun j v H4 Nx hj x3 tn => ?_) fun H4 md => ?_⟩
          · obtain ⟨s, hs, m1, b1, rfl, h1, h2⟩ := av.get hj
            have x4 := x3.trans off_le
            refine ⟨m1, _, rfl, .of (x4 _ _ h1), rfl, _, _, rfl, _, _, rfl, rfl, ?_⟩
            exact ⟨rfl, _, rfl, tn.keep0 (d := .tuple [.int (s.1.1 : Nat), .str (wd s.1.2)]) (by rw [hs]; rfl) (.tup (.of (x3 _ _ h2)) (.cons (.int _) (.cons (.str _) .nil)))⟩
          · obtain ⟨acc, _, hD4, _⟩ := id md
            exact ⟨D2, acc, rfl, .inl ⟨.of hD4, fun t ht => q2 t es _ (((I.x.trans x2).trans md.ext1).trans (Ext.upd ht)) ⟨tr, u, I.trk, hu, sg, sub⟩⟩⟩
        · rw [if_neg fun z => hm (mem_ik.mp z)]
          exact iteF ⟨rfl, fun _ => hm, _, rfl⟩
      · rintro σ H3 ⟨rfl, hm, v8', rfl⟩
        exact q1 _ I.x ⟨ksF N.S tr, fun k hk => List.mem_append_left _ hk, clo', I.un, hm (by show 0 < 1; omega)⟩
end
end Sv
namespace Sv
open PySem PySem.Spec PyProof.Rows L2
/-! ### flows (no program here) -/
def sm {α : Type} (l : List α) (g : α → Int) : Int := (l.map g).sum
section
variable {α : Type} {l : List α} {g h : α → Int}
theorem sm_nil : sm ([] : List α) g = 0 := rfl
theorem sm_cons (x : α) : sm (x :: l) g = g x + sm l g := by
  unfold sm
  rw [List.map_cons, List.sum_cons]
theorem sm_add : sm l (fun x => g x + h x) = sm l g + sm l h := by
  induction l with
  | nil => rfl
  | cons x l ih =>
    rw [sm_cons, sm_cons, sm_cons, ih]
    omega
theorem sm_congr (e : ∀ x ∈ l, g x = h x) : sm l g = sm l h := by
  unfold sm
  rw [List.map_congr_left e]
theorem sm_le (e : ∀ x ∈ l, g x ≤ h x) : sm l g ≤ sm l h := by
  induction l with
  | nil => exact Int.le_refl _
  | cons x l ih =>
    rw [sm_cons, sm_cons]
    have := ih fun y hy => e y (List.mem_cons_of_mem _ hy)
    have := e x List.mem_cons_self
    omega
theorem sm_zero (e : ∀ x ∈ l, g x = 0) : sm l g = 0 := by
  induction l with
  | nil => rfl
  | cons x l ih =>
    rw [sm_cons, ih fun y hy => e y (List.mem_cons_of_mem _ hy), e x List.mem_cons_self]
    rfl
end
/-- one or nothing -/
def ind (p : Prop) [Decidable p] : Int := if p then 1 else 0
theorem ind_t {p : Prop} [Decidable p] (h : p) : ind p = 1 := if_pos h
theorem ind_f {p : Prop} [Decidable p] (h : ¬ p) : ind p = 0 := if_neg h
/-- what leaves x less what comes -/
def dv (N : ND) (f : Ak → Int) (x : Int) : Int := sm N.As fun a => f a * (ind ((N.tip a).1 = x) - ind ((N.tip a).2 = x))
def val (N : ND) (f : Ak → Int) : Int := sm N.As fun a => f a * ind ((N.tip a).1 ∈ N.S)
theorem sum_dv (N : ND) (f : Ak → Int) : ∀ (L : List Int), L.Nodup → (sm N.As fun a => f a * (ind ((N.tip a).1 ∈ L) - ind ((N.tip a).2 ∈ L))) = sm L (dv N f)
  | [], _ => by
    rw [sm_nil]
    exact sm_zero fun a _ => by
      rw [ind_f (by simp), ind_f (by simp)]
      simp
  | x :: L, h => by
    obtain ⟨h1, h2⟩ := List.nodup_cons.mp h
    rw [sm_cons, ← sum_dv N f L h2]
    unfold dv
    rw [← sm_add]
    refine sm_congr fun a _ => ?_
    have e : ∀ y : Int, ind (y ∈ x :: L) = ind (y = x) + ind (y ∈ L) := fun y => by
      by_cases c : y = x
      · rw [ind_t (show y ∈ x :: L by rw [c]; exact List.mem_cons_self), ind_t c, ind_f (by rw [c]; exact h1)]
        rfl
      · rw [ind_f c]
        by_cases d : y ∈ L
        · rw [ind_t d, ind_t (List.mem_cons_of_mem _ d)]
          rfl
        · rw [ind_f d, ind_f (fun z => (List.mem_cons.mp z).elim c d)]
          rfl
    rw [e, e, ← Int.mul_add]
    congr 1
    omega
theorem tip_src {N : ND} {a : Ak} (h : a ∈ N.As) : ¬ (N.tip a).2 ∈ N.S ∧ (N.tip a).1 ≠ -1 := by
  have := (List.mem_filter.mp h).2
  simp only [Bool.and_eq_true, Bool.not_eq_true', decide_eq_false_iff_not] at this
  exact this
/-- kept within the rooms, and what comes goes -/
structure Fl (N : ND) (f : Ak → Int) : Prop where
  lo : ∀ a ∈ N.As, 0 ≤ f a
  hi : ∀ a ∈ N.As, ∀ r, N.room a = some r → f a ≤ r
  cons : ∀ x, ¬ x ∈ N.S → x ≠ -1 → dv N f x = 0
theorem val_dv {N : ND} (f : Ak → Int) (nd : N.S.Nodup) : val N f = sm N.S (dv N f) := by
  rw [← sum_dv N f N.S nd]
  refine sm_congr fun a ha => ?_
  rw [ind_f (tip_src ha).1, Int.sub_zero]
/-- what is sent over any cut -/
theorem cut_val {N : ND} {f : Ak → Int} (F : Fl N f) (nd : N.S.Nodup) {L : List Int} (hL : L.Nodup) (hS : ∀ k ∈ N.S, k ∈ L) (h1 : ¬ (-1 : Int) ∈ L) : (sm N.As fun a => f a * (ind ((N.tip a).1 ∈ L) - ind ((N.tip a).2 ∈ L))) = val N f := by
  rw [sum_dv N f L hL, val_dv f nd]
  have e1 : ∀ (L : List Int), ¬ (-1 : Int) ∈ L → sm L (dv N f) = sm (L.filter fun x => decide (x ∈ N.S)) (dv N f) := fun L => by
    induction L with
    | nil => exact fun _ => rfl
    | cons x L ih =>
      intro h
      have hx : x ≠ -1 := fun z => h (by rw [z]; exact List.mem_cons_self)
      have ih := ih fun z => h (List.mem_cons_of_mem _ z)
      by_cases c : x ∈ N.S
      · rw [List.filter_cons_of_pos (by simp [c]), sm_cons, sm_cons, ih]
      · rw [List.filter_cons_of_neg (by simp [c]), sm_cons, ih, F.cons x c hx, Int.zero_add]
  rw [e1 L h1, ← sum_dv N f _ (hL.sublist List.filter_sublist), ← sum_dv N f N.S nd]
  refine sm_congr fun a _ => ?_
  have e2 : ∀ y : Int, ind (y ∈ L.filter fun x => decide (x ∈ N.S)) = ind (y ∈ N.S) := fun y => by
    by_cases c : y ∈ N.S
    · rw [ind_t c, ind_t (List.mem_filter.mpr ⟨hS y c, by simp [c]⟩)]
    · rw [ind_f c, ind_f (fun z => c (by simpa using (List.mem_filter.mp z).2))]
  rw [e2, e2]
/-! ### a way is laid -/
def augF (v : Int) (f : Ak → Int) (ps : List (Ak × Int)) : Ak → Int := ps.foldl (fun f s => fun a => if a = s.1 then f a + s.2 * v else f a) f
theorem aug_cons (v : Int) (f : Ak → Int) (s : Ak × Int) (ps : List (Ak × Int)) : augF v f (s :: ps) = augF v (fun a => if a = s.1 then f a + s.2 * v else f a) ps := rfl
theorem aug_not {v : Int} : ∀ (ps : List (Ak × Int)) (f : Ak → Int) (a : Ak), ¬ a ∈ ps.map Prod.fst → augF v f ps a = f a
  | [], _, _, _ => rfl
  | s :: ps, f, a, h => by
    rw [aug_cons, aug_not ps _ a fun z => h (List.mem_cons_of_mem _ z)]
    exact if_neg fun z => h (by rw [z]; exact List.mem_cons_self)
theorem aug_at {v : Int} : ∀ (ps : List (Ak × Int)) (f : Ak → Int) (a : Ak) (t : Int), (ps.map Prod.fst).Nodup → (a, t) ∈ ps → augF v f ps a = f a + t * v
  | s :: ps, f, a, t, nd, h => by
    rw [List.map_cons] at nd
    obtain ⟨h1, h2⟩ := List.nodup_cons.mp nd
    rw [aug_cons]
    rcases List.mem_cons.mp h with z | z
    · subst z
      rw [aug_not ps _ a h1]
      exact if_pos rfl
    · rw [aug_at ps _ a t h2 z]
      have : a ≠ s.1 := fun q => h1 (by rw [← q]; exact List.mem_map.mpr ⟨(a, t), z, rfl⟩)
      rw [if_neg this]
/-- what a step is -/
structure StepOk (N : ND) (f : Ak → Int) (e : Ent) : Prop where
  m : e.a ∈ N.As
  w : (e.t = 1 ∧ (N.tip e.a).1 = e.pr ∧ freeF N f e.a ≠ some 0 ∧ e.k = (N.tip e.a).2) ∨ (e.t = -1 ∧ (N.tip e.a).2 = e.pr ∧ 0 < f e.a ∧ e.k = (N.tip e.a).1)
theorem stepOk {N : ND} {f : Ak → Int} {e : Ent} (h : (e.a, e.t, e.k) ∈ stepsF N f e.pr) : StepOk N f e := ⟨(step_mem h).1, (step_mem h).2⟩
theorem dv_upd {N : ND} {f : Ak → Int} {e : Ent} {v : Int} (x : Int) (ok : e.a ∈ N.As) (w : (e.t = 1 ∧ (N.tip e.a).1 = e.pr ∧ e.k = (N.tip e.a).2) ∨ (e.t = -1 ∧ (N.tip e.a).2 = e.pr ∧ e.k = (N.tip e.a).1)) :
    dv N (fun a => if a = e.a then f a + e.t * v else f a) x = dv N f x + v * (ind (e.pr = x) - ind (e.k = x)) := by
  unfold dv
  have main : ∀ l : List Ak, l.Nodup → sm l (fun a => (if a = e.a then f a + e.t * v else f a) * (ind ((N.tip a).1 = x) - ind ((N.tip a).2 = x))) = sm l (fun a => f a * (ind ((N.tip a).1 = x) - ind ((N.tip a).2 = x))) + (if e.a ∈ l then v * (ind (e.pr = x) - ind (e.k = x)) else 0) := fun l => by
    induction l with
    | nil => intro _; simp [sm_nil]
    | cons a l ih =>
      intro nd
      obtain ⟨h1, h2⟩ := List.nodup_cons.mp nd
      rw [sm_cons, sm_cons, ih h2]
      by_cases c : a = e.a
      · subst c
        rw [if_pos rfl, if_neg h1, if_pos List.mem_cons_self, Int.add_mul]
        have : e.t * v * (ind ((N.tip e.a).1 = x) - ind ((N.tip e.a).2 = x)) = v * (ind (e.pr = x) - ind (e.k = x)) := by
          rcases w with ⟨w1, w2, w3⟩ | ⟨w1, w2, w3⟩
          · rw [w1, w2, w3, Int.one_mul]
          · rw [w1, w2, w3, Int.neg_one_mul, Int.neg_mul, ← Int.mul_neg]
            congr 1
            omega
        rw [this]
        omega
      · rw [if_neg c]
        by_cases d : e.a ∈ l
        · rw [if_pos d, if_pos (List.mem_cons_of_mem _ d)]
          omega
        · rw [if_neg d, if_neg (fun z => (List.mem_cons.mp z).elim (fun z => c z.symm) d)]
          omega
  rw [main _ N.nodup, if_pos ok]
theorem dv_aug {N : ND} {v : Int} (x : Int) : ∀ {es : List Ent} {u w : Int} (f : Ak → Int), Seg es u w → (∀ e ∈ es, e.a ∈ N.As ∧ ((e.t = 1 ∧ (N.tip e.a).1 = e.pr ∧ e.k = (N.tip e.a).2) ∨ (e.t = -1 ∧ (N.tip e.a).2 = e.pr ∧ e.k = (N.tip e.a).1))) →
    dv N (augF v f (es.map stp)) x = dv N f x + v * (ind (u = x) - ind (w = x))
  | _, _, _, f, .nil u, _ => by
    show dv N f x = _
    rw [Int.sub_self, Int.mul_zero, Int.add_zero]
  | _, _, w, f, .cons (e := e) (es := es) sg, h => by
    rw [List.map_cons, aug_cons, dv_aug x _ sg fun e' he' => h e' (List.mem_cons_of_mem _ he')]
    have he := h e List.mem_cons_self
    show dv N (fun a => if a = e.a then f a + e.t * v else f a) x + _ = _
    rw [dv_upd x he.1 he.2, Int.add_assoc, ← Int.mul_add]
    congr 2
    omega
theorem tr_nodup {N : ND} {f : Ak → Int} {S : List Int} : ∀ {tr : List Ent}, TrOk (stepsF N f) S tr → (tr.map Ent.a).Nodup := fun {tr} h => by
  rw [List.Nodup, List.pairwise_map, List.pairwise_iff_getElem]
  intro i j hi hj ij e
  have h1 := h i tr[i] (List.getElem?_eq_getElem hi)
  have h2 := h j tr[j] (List.getElem?_eq_getElem hj)
  have o1 := stepOk h1.1
  have o2 := stepOk h2.1
  have k1 : tr[i].k ∈ ksF S (tr.take j) := List.mem_append_right _ (List.mem_map.mpr ⟨tr[i], List.mem_take_iff_getElem.mpr ⟨i, by omega, rfl⟩, rfl⟩)
  have p1 : tr[i].pr ∈ ksF S (tr.take j) := by
    rcases List.mem_append.mp h1.2.1 with z | z
    · exact List.mem_append_left _ z
    · obtain ⟨e', he', q⟩ := List.mem_map.mp z
      refine List.mem_append_right _ (List.mem_map.mpr ⟨e', ?_, q⟩)
      have : tr.take i = (tr.take j).take i := by rw [List.take_take, Nat.min_eq_left (Nat.le_of_lt ij)]
      rw [this] at he'
      exact List.mem_of_mem_take he'
  have n2 := h2.2.2
  rcases o1.w with ⟨a1, a2, _, a4⟩ | ⟨a1, a2, _, a4⟩ <;> rcases o2.w with ⟨b1, b2, _, b4⟩ | ⟨b1, b2, _, b4⟩
  · exact n2 (by rw [b4, ← e, ← a4]; exact k1)
  · exact n2 (by rw [b4, ← e, a2]; exact p1)
  · exact n2 (by rw [b4, ← e, a2]; exact p1)
  · exact n2 (by rw [b4, ← e, ← a4]; exact k1)
/-! ### the least of what is free on a way -/
def rmF (N : ND) (f : Ak → Int) (s : Ak × Int) : Option Int := if s.2 = 1 then freeF N f s.1 else some (f s.1)
theorem lfStep_n (N : ND) (f : Ak → Int) (s : Ak × Int) : lfStep N f none s = rmF N f s := rfl
theorem lfStep_s (N : ND) (f : Ak → Int) (s : Ak × Int) (c : Int) : lfStep N f (some c) s = match rmF N f s with | none => some c | some r => if r < c then some r else some c := rfl
theorem lf_fold (N : ND) (f : Ak → Int) : ∀ (ps : List (Ak × Int)) (b : Option Int) (v : Int), ps.foldl (lfStep N f) b = some v →
    (∀ c, b = some c → v ≤ c) ∧ (∀ s ∈ ps, ∀ r, rmF N f s = some r → v ≤ r) ∧ (b = some v ∨ ∃ s ∈ ps, rmF N f s = some v)
  | [], b, v, h => by
    have h' : b = some v := h
    refine ⟨fun c hc => ?_, (by intro s hs; cases hs), .inl h'⟩
    rw [h'] at hc
    cases hc
    exact Int.le_refl _
  | s :: ps, b, v, h => by
    obtain ⟨h1, h2, h3⟩ := lf_fold N f ps (lfStep N f b s) v h
    cases b with
    | none =>
      have es := lfStep_n N f s
      refine ⟨(by intro c hc; cases hc), fun s' hs' r hr => ?_, ?_⟩
      · rcases List.mem_cons.mp hs' with z | z
        · subst z
          exact h1 r (by rw [es]; exact hr)
        · exact h2 s' z r hr
      · rcases h3 with z | ⟨s', z1, z2⟩
        · exact .inr ⟨s, List.mem_cons_self, by rw [es] at z; exact z⟩
        · exact .inr ⟨s', List.mem_cons_of_mem _ z1, z2⟩
    | some c =>
      have es := lfStep_s N f s c
      cases er : rmF N f s with
      | none =>
        rw [er] at es
        refine ⟨fun c' hc' => by cases hc'; exact h1 c es, fun s' hs' r hr => ?_, ?_⟩
        · rcases List.mem_cons.mp hs' with z | z
          · subst z
            rw [er] at hr
            cases hr
          · exact h2 s' z r hr
        · rcases h3 with z | ⟨s', z1, z2⟩
          · exact .inl (by rw [es] at z; exact z)
          · exact .inr ⟨s', List.mem_cons_of_mem _ z1, z2⟩
      | some r0 =>
        rw [er] at es
        have es' : lfStep N f (some c) s = if r0 < c then some r0 else some c := es
        refine ⟨fun c' hc' => ?_, fun s' hs' r hr => ?_, ?_⟩
        · cases hc'
          by_cases lt : r0 < c
          · rw [if_pos lt] at es'
            have := h1 r0 es'
            omega
          · rw [if_neg lt] at es'
            exact h1 c es'
        · rcases List.mem_cons.mp hs' with z | z
          · subst z
            rw [er] at hr
            cases hr
            by_cases lt : r0 < c
            · rw [if_pos lt] at es'
              exact h1 r0 es'
            · rw [if_neg lt] at es'
              have := h1 c es'
              omega
          · exact h2 s' z r hr
        · rcases h3 with z | ⟨s', z1, z2⟩
          · rw [es'] at z
            by_cases lt : r0 < c
            · rw [if_pos lt] at z
              exact .inr ⟨s, List.mem_cons_self, by rw [er]; exact z⟩
            · rw [if_neg lt] at z
              exact .inl z
          · exact .inr ⟨s', List.mem_cons_of_mem _ z1, z2⟩
theorem lf_none (N : ND) (f : Ak → Int) : ∀ (ps : List (Ak × Int)) (b : Option Int), ps.foldl (lfStep N f) b = none → ∀ s ∈ ps, rmF N f s = none
  | [], _, _, s, hs => by cases hs
  | s :: ps, b, h, s', hs' => by
    have hb : lfStep N f b s = none := by
      cases e : lfStep N f b s with
      | none => rfl
      | some c =>
        have keep : ∀ (ps : List (Ak × Int)) (c : Int), ps.foldl (lfStep N f) (some c) ≠ none := fun ps => by
          induction ps with
          | nil => intro c z; cases z
          | cons s ps ih =>
            intro c
            rw [List.foldl_cons]
            have : ∃ d, lfStep N f (some c) s = some d := by
              rw [lfStep_s]
              cases rmF N f s with
              | none => exact ⟨_, rfl⟩
              | some r =>
                by_cases lt : r < c
                · exact ⟨r, if_pos lt⟩
                · exact ⟨c, if_neg lt⟩
            obtain ⟨d, hd⟩ := this
            rw [hd]
            exact ih d
        rw [List.foldl_cons, e] at h
        exact absurd h (keep ps c)
    have ih := lf_none N f ps _ (by rw [List.foldl_cons] at h; exact h)
    rcases List.mem_cons.mp hs' with z | z
    · subst z
      cases b with
      | none => exact hb
      | some c =>
        exfalso
        rw [lfStep_s] at hb
        cases er : rmF N f s' with
        | none => rw [er] at hb; cases hb
        | some r =>
          rw [er] at hb
          have hb' : (if r < c then some r else some c) = none := hb
          by_cases lt : r < c
          · rw [if_pos lt] at hb'; cases hb'
          · rw [if_neg lt] at hb'; cases hb'
    · exact ih s' z
structure Way' (N : ND) (f : Ak → Int) (es : List Ent) (u : Int) : Prop where
  su : u ∈ N.S
  sg : Seg es u (-1)
  ok : ∀ e ∈ es, StepOk N f e
  nd : (es.map Ent.a).Nodup
theorem way' {N : ND} {f : Ak → Int} {es : List Ent} (h : Way N (stepsF N f) es) : ∃ u, Way' N f es u := by
  obtain ⟨tr, u, trk, su, sg, sub⟩ := h.ex
  refine ⟨u, su, sg, fun e he => ?_, (tr_nodup trk).sublist (sub.map _)⟩
  obtain ⟨i, hi⟩ := List.mem_iff_getElem?.mp (sub.subset he)
  exact stepOk (trk i e hi).1
theorem aug_ok {N : ND} {f : Ak → Int} {es : List Ent} {v : Int} (F : Fl N f) (nd : N.S.Nodup) (s1 : ¬ (-1 : Int) ∈ N.S) (w : Way N (stepsF N f) es) (h : lfF N f (es.map stp) = some v) : Fl N (augF v f (es.map stp)) ∧ val N (augF v f (es.map stp)) = val N f + v ∧ 1 ≤ v := by
  obtain ⟨u, W⟩ := way' w
  obtain ⟨_, le, att⟩ := lf_fold N f _ _ v h
  have rm : ∀ e ∈ es, ∀ r, rmF N f (stp e) = some r → v ≤ r := fun e he r hr => le _ (List.mem_map.mpr ⟨e, he, rfl⟩) r hr
  have ndp : ((es.map stp).map Prod.fst).Nodup := by
    rw [List.map_map]
    exact W.nd
  have v1 : 1 ≤ v := by
    rcases att with z | ⟨s, hs, hr⟩
    · cases z
    · obtain ⟨e, he, rfl⟩ := List.mem_map.mp hs
      have o := W.ok e he
      unfold rmF stp at hr
      rcases o.w with ⟨a1, _, a3, _⟩ | ⟨a1, _, a3, _⟩
      · rw [if_pos a1] at hr
        have a3' : freeF N f e.a ≠ some 0 := a3
        have hr' : freeF N f e.a = some v := hr
        unfold freeF at hr'
        cases er : N.room e.a with
        | none => rw [er] at hr'; cases hr'
        | some r =>
          rw [er] at hr'
          have q := F.hi e.a o.m r er
          have hv : r - f e.a = v := Option.some.inj hr'
          have : v ≠ 0 := fun z => a3' (by rw [hr, z])
          omega
      · rw [if_neg (by show ¬ e.t = 1; rw [a1]; decide)] at hr
        have : f e.a = v := Option.some.inj hr
        omega
  have at_ : ∀ a, (∃ e ∈ es, e.a = a ∧ augF v f (es.map stp) a = f a + e.t * v) ∨ augF v f (es.map stp) a = f a := fun a => by
    by_cases c : a ∈ (es.map stp).map Prod.fst
    · obtain ⟨s, hs, rfl⟩ := List.mem_map.mp c
      obtain ⟨e, he, rfl⟩ := List.mem_map.mp hs
      exact .inl ⟨e, he, rfl, aug_at _ f _ _ ndp hs⟩
    · exact .inr (aug_not _ f a c)
  have steps : ∀ e ∈ es, e.a ∈ N.As ∧ ((e.t = 1 ∧ (N.tip e.a).1 = e.pr ∧ e.k = (N.tip e.a).2) ∨ (e.t = -1 ∧ (N.tip e.a).2 = e.pr ∧ e.k = (N.tip e.a).1)) := fun e he => by
    have o := W.ok e he
    refine ⟨o.m, ?_⟩
    rcases o.w with ⟨a1, a2, _, a4⟩ | ⟨a1, a2, _, a4⟩
    · exact .inl ⟨a1, a2, a4⟩
    · exact .inr ⟨a1, a2, a4⟩
  have hd := fun x => dv_aug (v := v) x f W.sg steps
  refine ⟨⟨fun a ha => ?_, fun a ha r hr => ?_, fun x hx h1 => ?_⟩, ?_, v1⟩
  · rcases at_ a with ⟨e, he, rfl, q⟩ | q
    · rw [q]
      have o := W.ok e he
      have f0 := F.lo e.a ha
      rcases o.w with ⟨a1, _, _, _⟩ | ⟨a1, _, _, _⟩
      · rw [a1]
        omega
      · have := rm e he (f e.a) (by unfold rmF stp; rw [if_neg (by show ¬ e.t = 1; rw [a1]; decide)])
        rw [a1]
        omega
    · rw [q]
      exact F.lo a ha
  · rcases at_ a with ⟨e, he, rfl, q⟩ | q
    · rw [q]
      have o := W.ok e he
      have f0 := F.hi e.a ha r hr
      rcases o.w with ⟨a1, _, _, _⟩ | ⟨a1, _, _, _⟩
      · have := rm e he (r - f e.a) (by
          unfold rmF stp freeF
          rw [if_pos a1]
          show (N.room e.a).map (fun r => r - f e.a) = _
          rw [hr]
          rfl)
        rw [a1]
        omega
      · rw [a1]
        omega
    · rw [q]
      exact F.hi a ha r hr
  · rw [hd x, F.cons x hx h1, ind_f (fun z => hx (by rw [← z]; exact W.su)), ind_f (fun z => h1 z.symm)]
    simp
  · rw [val_dv _ nd, val_dv _ nd]
    have e : sm N.S (dv N (augF v f (es.map stp))) = sm N.S fun x => dv N f x + v * (ind (u = x) - ind ((-1 : Int) = x)) := sm_congr fun x _ => hd x
    rw [e, sm_add]
    congr 1
    have one : ∀ (l : List Int), l.Nodup → ¬ (-1 : Int) ∈ l → (sm l fun x => v * (ind (u = x) - ind ((-1 : Int) = x))) = if u ∈ l then v else 0 := fun l => by
      induction l with
      | nil => intro _ _; simp [sm_nil]
      | cons x l ih =>
        intro n1 n2
        obtain ⟨h1, h2⟩ := List.nodup_cons.mp n1
        rw [sm_cons, ih h2 fun z => n2 (List.mem_cons_of_mem _ z), ind_f (fun z : (-1 : Int) = x => n2 (by rw [z]; exact List.mem_cons_self))]
        by_cases c : u = x
        · subst c
          rw [ind_t rfl, if_neg h1, if_pos List.mem_cons_self]
          simp
        · rw [ind_f c]
          by_cases d : u ∈ l
          · rw [if_pos d, if_pos (List.mem_cons_of_mem _ d)]
            simp
          · rw [if_neg d, if_neg (fun z => (List.mem_cons.mp z).elim c d)]
            simp
    rw [one N.S nd s1, if_pos W.su]
/-- a way all of whose rooms are bare runs out of no shut set -/
theorem lf_some {N : ND} {f : Ak → Int} {es : List Ent} (w : Way N (stepsF N f) es) (sh : Shut N (stepsN N)) : ∃ v, lfF N f (es.map stp) = some v := by
  cases h : lfF N f (es.map stp) with
  | some v => exact ⟨v, rfl⟩
  | none =>
    exfalso
    obtain ⟨u, W⟩ := way' w
    obtain ⟨ks, hS, clo, _, h1⟩ := sh.ex
    have all := lf_none N f _ _ h
    have go : ∀ (es : List Ent) (u w : Int), Seg es u w → (∀ e ∈ es, StepOk N f e) → (∀ e ∈ es, rmF N f (stp e) = none) → u ∈ ks → w ∈ ks := by
      intro es u w sg
      induction sg with
      | nil u => exact fun _ _ h => h
      | @cons e es w sg ih =>
        intro h2 h3 h4
        refine ih (fun e' he' => h2 e' (List.mem_cons_of_mem _ he')) (fun e' he' => h3 e' (List.mem_cons_of_mem _ he')) ?_
        have o := h2 e List.mem_cons_self
        have r := h3 e List.mem_cons_self
        unfold rmF stp at r
        rcases o.w with ⟨a1, a2, _, a4⟩ | ⟨a1, _, _, _⟩
        · rw [if_pos a1] at r
          have er : N.room e.a = none := by
            have r' : (N.room e.a).map (fun r => r - f e.a) = none := r
            cases q : N.room e.a with
            | none => rfl
            | some x => rw [q] at r'; cases r'
          have := clo e.pr h4 (e.a, 1, (N.tip e.a).2) (stepN_mem.mpr ⟨o.m, a2, er, rfl, rfl⟩)
          rw [a4]
          exact this
        · rw [if_neg (by show ¬ e.t = 1; rw [a1]; decide)] at r
          cases r
    exact h1 (go es u (-1) W.sg W.ok (fun e he => all _ (List.mem_map.mpr ⟨e, he, rfl⟩)) (hS u W.su))
end Sv
namespace Sv
open PySem PySem.Spec PyProof.Rows L2
/-! ### cuts -/
def oadd : Option Int → Option Int → Option Int
  | some a, some b => some (a + b)
  | _, _ => none
theorem oadd_comm (a b : Option Int) : oadd a b = oadd b a := by
  cases a <;> cases b <;> simp [oadd, Int.add_comm]
theorem oadd_assoc (a b c : Option Int) : oadd (oadd a b) c = oadd a (oadd b c) := by
  cases a <;> cases b <;> cases c <;> simp [oadd, Int.add_assoc]
theorem oadd_zero (a : Option Int) : oadd (some 0) a = a := by
  cases a <;> simp [oadd]
def osum (l : List (Option Int)) : Option Int := if none ∈ l then none else some ((l.map fun o => o.getD 0).sum)
theorem osum_nil : osum [] = some 0 := rfl
theorem osum_cons (x : Option Int) (l : List (Option Int)) : osum (x :: l) = oadd x (osum l) := by
  unfold osum
  cases x with
  | none => simp [oadd]
  | some a =>
    by_cases h : none ∈ l
    · rw [if_pos (List.mem_cons_of_mem _ h), if_pos h]
      rfl
    · rw [if_neg (by simp [h]), if_neg h]
      simp [oadd]
theorem osum_app (l m : List (Option Int)) : osum (l ++ m) = oadd (osum l) (osum m) := by
  induction l with
  | nil => rw [List.nil_append, osum_nil, oadd_zero]
  | cons x l ih => rw [List.cons_append, osum_cons, osum_cons, ih, oadd_assoc]
theorem osum_some {l : List (Option Int)} {c : Int} (h : osum l = some c) : ∀ o ∈ l, ∃ r, o = some r := fun o ho => by
  cases o with
  | some r => exact ⟨r, rfl⟩
  | none =>
    unfold osum at h
    rw [if_pos ho] at h
    cases h
def crs (N : ND) (L : List Int) (a : Ak) : Bool := decide ((N.tip a).1 ∈ L) && !decide ((N.tip a).2 ∈ L)
def cutF (N : ND) (L : List Int) : Option Int := osum ((N.As.filter (crs N L)).map N.room)
theorem crs_iff {N : ND} {L : List Int} {a : Ak} : crs N L a = true ↔ (N.tip a).1 ∈ L ∧ ¬ (N.tip a).2 ∈ L := by
  unfold crs
  simp
theorem cut_sum {N : ND} {L : List Int} {c : Int} (h : cutF N L = some c) : c = sm N.As fun a => if crs N L a = true then (N.room a).getD 0 else 0 := by
  unfold cutF at h
  generalize N.As = l at h
  induction l generalizing c with
  | nil =>
    cases h
    rfl
  | cons a l ih =>
    rw [sm_cons]
    by_cases hc : crs N L a = true
    · rw [List.filter_cons_of_pos hc, List.map_cons, osum_cons] at h
      rw [if_pos hc]
      cases er : N.room a with
      | none => rw [er] at h; cases h
      | some r =>
        rw [er] at h
        cases eo : osum ((l.filter (crs N L)).map N.room) with
        | none => rw [eo] at h; cases h
        | some d =>
          rw [eo] at h
          cases h
          rw [ih eo]
          rfl
    · rw [List.filter_cons_of_neg hc] at h
      rw [if_neg hc, Int.zero_add]
      exact ih h
theorem ind_cases (p q : Prop) [Decidable p] [Decidable q] : (p ∧ ¬ q ∧ ind p - ind q = 1) ∨ (¬ p ∧ q ∧ ind p - ind q = -1) ∨ (ind p - ind q = 0 ∧ ¬ (p ∧ ¬ q) ∧ ¬ (¬ p ∧ q)) := by
  by_cases hp : p <;> by_cases hq : q
  · exact .inr (.inr ⟨by rw [ind_t hp, ind_t hq]; rfl, fun z => z.2 hq, fun z => z.1 hp⟩)
  · exact .inl ⟨hp, hq, by rw [ind_t hp, ind_f hq]; rfl⟩
  · exact .inr (.inl ⟨hp, hq, by rw [ind_f hp, ind_t hq]; rfl⟩)
  · exact .inr (.inr ⟨by rw [ind_f hp, ind_f hq]; rfl, fun z => hp z.1, fun z => hq z.2⟩)
theorem dual_le {N : ND} {f : Ak → Int} (F : Fl N f) (nd : N.S.Nodup) {L : List Int} (hL : L.Nodup) (hS : ∀ k ∈ N.S, k ∈ L) (h1 : ¬ (-1 : Int) ∈ L) {c : Int} (h : cutF N L = some c) : val N f ≤ c := by
  rw [← cut_val F nd hL hS h1, cut_sum h]
  refine sm_le fun a ha => ?_
  have f0 := F.lo a ha
  rcases ind_cases ((N.tip a).1 ∈ L) ((N.tip a).2 ∈ L) with ⟨p, q, e⟩ | ⟨p, q, e⟩ | ⟨e, p, q⟩
  · rw [e, if_pos (crs_iff.mpr ⟨p, q⟩), Int.mul_one]
    have : ∃ r, N.room a = some r := osum_some h (N.room a) (List.mem_map.mpr ⟨a, List.mem_filter.mpr ⟨ha, crs_iff.mpr ⟨p, q⟩⟩, rfl⟩)
    obtain ⟨r, hr⟩ := this
    rw [hr]
    exact F.hi a ha r hr
  · rw [e, if_neg (fun z => p (crs_iff.mp z).1)]
    omega
  · rw [e, if_neg (fun z => p (crs_iff.mp z)), Int.mul_zero]
    exact Int.le_refl _
/-- the places of a shut set, once each -/
theorem shut_list {N : ND} (ok : N.Ok) {St : Int → List Stp} (sh : Shut N St) : ∃ L : List Int, L.Nodup ∧ (∀ k ∈ N.S, k ∈ L) ∧ ¬ (-1 : Int) ∈ L ∧ (∀ k ∈ L, k ∈ Uni N) ∧ (∀ k ∈ L, ∀ s ∈ St k, s.2.2 ∈ Uni N → s.2.2 ∈ L) := by
  obtain ⟨ks, hS, clo, hu, h1⟩ := sh.ex
  have und : (Uni N).Nodup := by
    unfold Uni below
    rw [List.nodup_cons]
    refine ⟨fun z => ?_, ?_⟩
    · obtain ⟨j, _, e⟩ := List.mem_map.mp z
      have : (0 : Int) ≤ Int.ofNat j := Int.natCast_nonneg j
      omega
    · exact List.Pairwise.map Int.ofNat (fun a b h z => h (Int.ofNat.inj z)) List.nodup_range
  refine ⟨(Uni N).filter fun k => decide (k ∈ ks), und.sublist List.filter_sublist, fun k hk => ?_, fun z => ?_, fun k hk => (List.mem_filter.mp hk).1, fun k hk s hs hu' => ?_⟩
  · exact List.mem_filter.mpr ⟨hu k (hS k hk), by simp [hS k hk]⟩
  · have := (List.mem_filter.mp z).2
    simp at this
    exact h1 this
  · have := (List.mem_filter.mp hk).2
    simp at this
    exact List.mem_filter.mpr ⟨hu', by simp [clo k this s hs]⟩
theorem dual_eq {N : ND} {f : Ak → Int} (ok : N.Ok) (F : Fl N f) (sh : Shut N (stepsF N f)) : ∃ L : List Int, L.Nodup ∧ (∀ k ∈ N.S, k ∈ L) ∧ ¬ (-1 : Int) ∈ L ∧ (∀ k ∈ L, k ∈ Uni N) ∧ cutF N L = some (val N f) := by
  obtain ⟨L, nd, hS, h1, hu, clo⟩ := shut_list ok sh
  refine ⟨L, nd, hS, h1, hu, ?_⟩
  have full : ∀ a ∈ N.As, crs N L a = true → N.room a = some (f a) := fun a ha hc => by
    obtain ⟨c1, c2⟩ := crs_iff.mp hc
    have h0 : freeF N f a = some 0 := Classical.byContradiction fun z => by
      have hs : (a, (1 : Int), (N.tip a).2) ∈ stepsF N f (N.tip a).1 := List.mem_flatMap.mpr ⟨a, ha, by
        unfold step1
        rw [if_pos ⟨rfl, z⟩]
        simp⟩
      exact c2 (clo _ c1 _ hs (uni_tip N ok.w ha).2)
    unfold freeF at h0
    cases er : N.room a with
    | none => rw [er] at h0; cases h0
    | some r =>
      rw [er] at h0
      have : r - f a = 0 := Option.some.inj h0
      congr 1
      omega
  have back : ∀ a ∈ N.As, ¬ (N.tip a).1 ∈ L → (N.tip a).2 ∈ L → f a = 0 := fun a ha c1 c2 => by
    have f0 := F.lo a ha
    rcases Int.lt_or_eq_of_le f0 with z | z
    · have hs : (a, (-1 : Int), (N.tip a).1) ∈ stepsF N f (N.tip a).2 := List.mem_flatMap.mpr ⟨a, ha, by
        unfold step1
        rw [if_pos (show (N.tip a).2 = (N.tip a).2 ∧ 0 < f a from ⟨rfl, z⟩)]
        simp⟩
      exact absurd (clo _ c2 _ hs (uni_tip N ok.w ha).1) c1
    · exact z.symm
  have e1 : (N.As.filter (crs N L)).map N.room = (N.As.filter (crs N L)).map fun a => some (f a) := List.map_congr_left fun a ha => full a (List.mem_filter.mp ha).1 (List.mem_filter.mp ha).2
  have e2 : ∃ c, cutF N L = some c := by
    unfold cutF osum
    rw [e1]
    refine ⟨_, if_neg ?_⟩
    intro z
    obtain ⟨a, _, q⟩ := List.mem_map.mp z
    cases q
  obtain ⟨c, hc⟩ := e2
  rw [hc, cut_sum hc, ← cut_val F ok.nd nd hS h1]
  congr 1
  refine sm_congr fun a ha => ?_
  rcases ind_cases ((N.tip a).1 ∈ L) ((N.tip a).2 ∈ L) with ⟨p, q, e⟩ | ⟨p, q, e⟩ | ⟨e, p, q⟩
  · rw [e, if_pos (crs_iff.mpr ⟨p, q⟩), full a ha (crs_iff.mpr ⟨p, q⟩), Int.mul_one]
    rfl
  · rw [e, if_neg (fun z => p (crs_iff.mp z).1), back a ha p q]
    rfl
  · rw [e, if_neg (fun z => p (crs_iff.mp z)), Int.mul_zero]
theorem dual_bound {N : ND} (ok : N.Ok) (sh : Shut N (stepsN N)) : ∃ B, ∀ f, Fl N f → val N f ≤ B := by
  obtain ⟨L, nd, hS, h1, hu, clo⟩ := shut_list ok sh
  have e2 : ∃ c, cutF N L = some c := by
    unfold cutF osum
    refine ⟨_, if_neg ?_⟩
    intro z
    obtain ⟨a, ha, q⟩ := List.mem_map.mp z
    obtain ⟨h2, h3⟩ := List.mem_filter.mp ha
    obtain ⟨c1, c2⟩ := crs_iff.mp h3
    exact c2 (clo _ c1 _ (stepN_mem (s := (a, 1, (N.tip a).2)) |>.mpr ⟨h2, rfl, q, rfl, rfl⟩) (uni_tip N ok.w h2).2)
  obtain ⟨c, hc⟩ := e2
  exact ⟨c, fun f F => dual_le F ok.nd nd hS h1 hc⟩
theorem way_bar {N : ND} {es : List Ent} (w : Way N (stepsN N) es) {L : List Int} (hS : ∀ k ∈ N.S, k ∈ L) (h1 : ¬ (-1 : Int) ∈ L) : cutF N L = none := by
  obtain ⟨tr, u, trk, su, sg, sub⟩ := w.ex
  cases h : cutF N L with
  | none => rfl
  | some c =>
    exfalso
    have go : ∀ (es : List Ent) (u w : Int), Seg es u w → (∀ e ∈ es, (e.a, e.t, e.k) ∈ stepsN N e.pr) → u ∈ L → w ∈ L := by
      intro es u w sg
      induction sg with
      | nil u => exact fun _ h => h
      | @cons e es w sg ih =>
        intro h2 h4
        refine ih (fun e' he' => h2 e' (List.mem_cons_of_mem _ he')) ?_
        obtain ⟨m1, m2, m3, m4, m5⟩ := stepN_mem.mp (h2 e List.mem_cons_self)
        have m2' : (N.tip e.a).1 = e.pr := m2
        have m5' : e.k = (N.tip e.a).2 := m5
        have m3' : N.room e.a = none := m3
        by_cases q : e.k ∈ L
        · exact q
        · exfalso
          obtain ⟨r, hr⟩ := osum_some h (N.room e.a) (List.mem_map.mpr ⟨e.a, List.mem_filter.mpr ⟨m1, crs_iff.mpr ⟨by rw [m2']; exact h4, by rw [← m5']; exact q⟩⟩, rfl⟩)
          rw [m3'] at hr
          cases hr
    refine h1 (go es u (-1) sg (fun e he => ?_) (hS u su))
    obtain ⟨i, hi⟩ := List.mem_iff_getElem?.mp (sub.subset he)
    exact (trk i e hi).1
theorem fl_zero (N : ND) (ok : N.Ok) : Fl N fun _ => 0 := by
  refine ⟨fun a _ => Int.le_refl _, fun a ha r hr => ?_, fun x _ _ => sm_zero fun a _ => Int.zero_mul _⟩
  unfold ND.room at hr
  have : ∀ (l : List (Option Int)), (∀ o ∈ l, OkP o) → l.getD a.1 none = some r → 0 ≤ r := fun l h e => by
    rw [List.getD_eq_getElem?_getD] at e
    cases q : l[a.1]? with
    | none => rw [q] at e; cases e
    | some o =>
      rw [q] at e
      exact (h o (List.mem_of_getElem? q) r e).1
  split at hr
  · exact this _ ok.os hr
  · exact this _ ok.ob hr
end Sv
namespace Sv
open PySem PySem.Spec PyProof.Rows L2
/-! ### fill -/
theorem NetC.butn {K : PySem.W.Frag} {H H' : Hp} {N : ND} {p dx ls lk dr dt dn : Addr} {tv : Ak → V} {kvs : List (List Key × V)} (h : NetC K H N p dx ls lk dr dt dn tv) (b : But dn H H') (e : H dn = some (.dT kvs)) : NetC K H' N p dx ls lk dr dt dn tv := by
  have nk : ∀ {a u}, Rd H a u → (∀ kvs, u ≠ .dT kvs) → a ≠ dn := fun {a u} r hu z => by
    rw [z] at r
    rcases r with r | ⟨o, r⟩ <;> rw [e] at r
    · exact hu _ (Option.some.inj r).symm
    · cases r
  have sl : ∀ {a xs}, SqL K H a xs → SqL K H' a xs := fun {a xs} s => s.imp (fun r => Rd.but b (nk r (by intro _ z; cases z)) r) id
  have st : ∀ {a xs}, SqT K H a xs → SqT K H' a xs := fun {a xs} s => s.imp (fun r => Rd.but b (nk r (by intro _ z; cases z)) r) id
  exact ⟨b _ _ (ne_of h.ins e (by intro z; cases z)) h.ins, sl h.src, sl h.snk, Rd.but b h.ne1.symm h.rooms, Rd.but b h.ne2.symm h.tips, fun a ha => (h.tipv a ha).imp fun t z => ⟨z.1, st z.2⟩, h.ne1, h.ne2⟩
theorem td_butn {H H' : Hp} {dn : Addr} {kvs : List (List Key × V)} (b : But dn H H') (e : H dn = some (.dT kvs)) : Td H H' := fun a xs h => b _ _ (ne_of h e (by intro z; cases z)) h
/-- the state of fill's loop: v what taken holds -/
def FillI (H : Hp) (N : ND) (dn : Addr) (f : Ak → Int) (v : V) (H2 : Hp) : Prop := But dn H H2 ∧ H2 dn = some (numV N f) ∧ Fl N f ∧ ((v = .non ∧ Shut N (stepsF N f)) ∨ ∃ L vs es, v = .ref L ∧ H2 L = some (.lst vs) ∧ A2 (PStepV H2) vs (List.map stp es) ∧ Way N (stepsF N f) es)
def spFill (K : PySem.W.Frag) : Sp := sp1 fun x H Q => ∃ N p dx ls lk dr dt dn tv f, x = .ref p ∧ N.Ok ∧ NetC K H N p dx ls lk dr dt dn tv ∧ H dn = some (numV N f) ∧ Fl N f ∧ H dr = some (.dT (dA N.As fun a => oV (N.room a))) ∧
  (∀ t es H', Ext H H' → Way N (stepsN N) es → Q (.ref t) H') ∧ (∀ f' H', But dn H H' → H' dn = some (numV N f') → Fl N f' → Shut N (stepsF N f') → Q .non H')
theorem way_in {N : ND} {f : Ak → Int} {es : List Ent} (w : Way N (stepsF N f) es) : ∀ s ∈ es.map stp, s.1 ∈ N.As ∧ (s.2 = 1 ∨ s.2 = -1) := fun s hs => by
  obtain ⟨u, W⟩ := way' w
  obtain ⟨e, he, rfl⟩ := List.mem_map.mp hs
  have o := W.ok e he
  exact ⟨o.m, o.w.elim (fun z => .inl z.1) fun z => .inr z.1⟩
section
variable {P : Program} {w : World} {K : PySem.W.Frag} {mg : PySem.Str → Option Value} {base : Heap}
theorem sc_Network_fill : FnScope ["self", "row", "taken", "more", "arc", "turn"] ["self"] (defScope s_Network_fill) := ⟨rfl, rfl, rfl, by decide +kernel, rfl, by decide +kernel, by decide +kernel⟩
theorem mt_Network_fill (T : Txt K mg) : C8.Met P w K mg base 5 (He.ga K "Network") "fill" (spFill K) [] := by
  obtain ⟨fd, F⟩ := T.f_Network_fill
  refine metN T.c_Network T.m_Network_fill F sc_Network_fill (F.bindsN fun _ _ _ _ _ _ us hl => match us, hl with | [_], _ => rfl) len1 (fun cdv A outer s H vs Q E hr h => ?_)
  refine ⟨_, (pss_cons (ps_set (i := 1) sc_Network_fill.nd rfl (by first | exact Or.inl rfl | exact Or.inr rfl) (C8.pe_mt0 (mt_Network_barred_row T) hr (by decide) (pv 0)))
      (pss_cons (ps_if (pt_cmpR op_notN (pv 1) pe_non (nomark _)) (pss_one (ps_ret (pv 1)))
      pss_nil)
      (C8.pss_cut (ps_set (i := 2) sc_Network_fill.nd rfl (by first | exact Or.inl rfl | exact Or.inr rfl) (C8.pe_mt0 (mt_Network_path T) hr (by decide) (pv 0)))
      (pss_cons (ps_while PassesOwn.never (pt_cmpR op_notN (pv 2) pe_non (nomark _))
      (pss_cons (ps_set (i := 3) sc_Network_fill.nd rfl (by first | exact Or.inl rfl | exact Or.inr rfl) (C8.pe_mt (mt_Network_least_free T) hr (by decide) (pv 0) (pa_cons (pv 2) pa_nil)))
      (pss_cons (ps_for PassesOwn.never rfl (pi_list (pv 2)) (pg_tup (by rfl) (pgs_cons (pg_name (i := 4) sc_Network_fill.nd rfl (by first | exact Or.inl rfl | exact Or.inr rfl)) (pgs_cons (pg_name (i := 5) sc_Network_fill.nd rfl (by first | exact Or.inl rfl | exact Or.inr rfl)) pgs_nil)))
      (pss_one (ps_daug (hu_of hr) (pe_fld (pv 0) rfl) (pv 4) (pe_op op_mul (pv 5) (pv 3)) in_add (fun _ _ _ => rfl))))
      (pss_one (ps_set (i := 2) sc_Network_fill.nd rfl (by first | exact Or.inl rfl | exact Or.inr rfl) (C8.pe_mt0 (mt_Network_path T) hr (by decide) (pv 0)))))))
      (pss_one (ps_ret pe_non)))))), ?_⟩
  -- slots: 0:self 1:row 2:taken 3:more 4:arc 5:turn
  obtain ⟨x, rfl, N, p, dx, ls, lk, dr, dt, dn, tv, f, rfl, nok, c, hn, fl, hdr, q1, q2⟩ := h
  have lin : 2000 < sizeLine := by rw [sizeLine_eq]; omega
  have lAs := N.len nok.w
  have s1 : ¬ (-1 : Int) ∈ N.S := fun z => by
    have := (nok.ss _ z).1
    omega
  refine ⟨_, rfl, p, dx, _, rfl, c.ins, rfl, _, rfl, N, p, dx, ls, lk, dr, dt, dn, tv, rfl, nok, c, hdr, fun H1 x1 shN => ?_, fun t es H1 x1 wn => ?_⟩
  · obtain ⟨B, hB⟩ := dual_bound nok shN
    have c1 := c.ext x1
    refine ⟨_, rfl, rfl, _, rfl, iteF ?_⟩
    refine ⟨fun σ' H2 => ∃ f2 v, σ' = [some (.ref p), some .non, some v, none, none, none] ∧ FillI H N dn f2 v H2, ?_, ?_⟩
    · refine ⟨_, rfl, p, dx, _, rfl, c1.ins, rfl, _, rfl, N, p, dx, ls, lk, dr, dt, dn, tv, f, rfl, nok, c1, x1 _ _ hn, x1 _ _ hdr, fun H2 x2 sh => ?_, fun L vs es H2 x2 hL av wy => ?_⟩
      · exact ⟨f, .non, rfl, .of (x1.trans x2), (x1.trans x2) _ _ hn, fl, .inl ⟨rfl, sh⟩⟩
      · exact ⟨f, .ref L, rfl, .of (x1.trans x2), (x1.trans x2) _ _ hn, fl, .inr ⟨L, vs, es, rfl, hL, av, wy⟩⟩
    · rintro σ' H2 ⟨f0, v0, rfl, I0⟩
      refine ⟨fun m σ H' => ∃ f2 v v3 v4 v5, σ = [some (.ref p), some .non, some v, v3, v4, v5] ∧ FillI H N dn f2 v H' ∧ m = (B - val N f2).toNat, ⟨_, f0, v0, _, _, _, rfl, I0, rfl⟩, ?_⟩
      rintro m σ H2 ⟨f2, v, v3, v4, v5, rfl, ⟨b2, hn2, fl2, cs⟩, em⟩
      refine ⟨_, rfl, rfl, _, rfl, ?_⟩
      rcases cs with ⟨rfl, sh⟩ | ⟨L, vs, es, rfl, hL, av, wy⟩
      · exact iteF (q2 f2 H2 b2 hn2 fl2 sh)
      · refine iteT ⟨fun σ' H' => ∃ m', m' < m ∧ ∃ f2 v v3 v4 v5, σ' = [some (.ref p), some .non, some v, v3, v4, v5] ∧ FillI H N dn f2 v H' ∧ m' = (B - val N f2).toNat, fun σ' H' z => z, ?_⟩
        have c2 := c.butn b2 hn
        have hdr2 : H2 dr = some (.dT (dA N.As fun a => oV (N.room a))) := b2 _ _ c.ne1.symm hdr
        obtain ⟨more, hmore⟩ := lf_some wy shN
        obtain ⟨flA, valA, m1⟩ := aug_ok fl2 nok.nd s1 wy hmore
        refine ⟨_, rfl, p, dx, _, rfl, c2.ins, rfl, _, rfl, _, _, rfl, N, p, dx, ls, lk, dr, dt, dn, tv, f2, L, vs, es.map stp, rfl, rfl, c2, hn2, .of hL, av, fun s hs => (way_in wy s hs).1, ?_⟩
        rw [hmore]
        refine ⟨_, rfl, L, rfl, ⟨_, .of hL⟩, for_list (K := K) (a := L) (xs := vs) (fun i σ H' => ∃ v4 v5, σ = [some (.ref p), some .non, some (.ref L), some (.int more), v4, v5] ∧ But dn H2 H' ∧ H' dn = some (numV N (augF more f2 ((es.map stp).take i)))) ⟨_, _, rfl, fun _ _ _ h => h, hn2⟩ (fun i σ H' _ z => ?_) ?_ ?_⟩
        · obtain ⟨_, _, _, b, _⟩ := z
          exact .of (b _ _ (ne_of hL hn2 (by intro z; cases z)) hL)
        · rintro i v σ H' hi ⟨v4, v5, rfl, b3, hn3⟩
          obtain ⟨s, hs, mm, b, rfl, hm, hb⟩ := av.get hi
          obtain ⟨sin, st⟩ := way_in wy s (List.mem_of_getElem? hs)
          have td := td_butn b3 hn2
          have c3 := c2.butn b3 hn2
          refine ⟨mm, _, rfl, .of (td _ _ hm), rfl, _, _, rfl, _, _, rfl, rfl, ?_⟩
          refine ⟨_, rfl, p, _, dx, _, _, rfl, c3.ins, T.c_Network, T.n_Network_numbers, rfl, _, rfl, dn, .int (augF more f2 ((es.map stp).take i) s.1), rfl, .inr ⟨_, aK s.1, b, .inl hn3, rfl, td _ _ hb, by rw [dA_val, if_pos sin]⟩, _, rfl, _, rfl, _, _, rfl, rfl, .inl ?_, _, _, rfl, rfl, ?_⟩
          · rcases st with z | z <;> rw [z] <;> decide
          · refine ⟨_, DPut.t (k := aK s.1) hn3 (td _ _ hb) (by rw [dA_len]; omega), _, _, rfl, b3.trans .put, ?_⟩
            rw [upd_same, dA_set sin]
            unfold numV augF
            rw [List.take_add_one, hs, List.foldl_append]
            refine congrArg some (congrArg HO.dT (dA_congr fun y _ => ?_))
            show (if y = s.1 then V.int _ else V.int _) = V.int (if y = s.1 then _ else _)
            split <;> rename_i q
            · rw [q]
            · rfl
        · rintro σ H' ⟨v4, v5, rfl, b3, hn3⟩
          rw [av.len, List.take_length] at hn3
          have b4 := b2.trans b3
          have c3 := c2.butn b3 hn2
          have hdr3 := b3 _ _ c.ne1.symm hdr2
          have lt : (B - val N (augF more f2 (es.map stp))).toNat < m := by
            have := hB _ flA
            rw [valA] at this ⊢
            omega
          refine ⟨_, rfl, p, dx, _, rfl, c3.ins, rfl, _, rfl, N, p, dx, ls, lk, dr, dt, dn, tv, _, rfl, nok, c3, hn3, hdr3, fun H3 x3 sh => ?_, fun L' vs' es' H3 x3 hL' av' wy' => ?_⟩
          · exact ⟨_, lt, _, .non, _, _, _, rfl, ⟨b4.trans (.of x3), x3 _ _ hn3, flA, .inl ⟨rfl, sh⟩⟩, rfl⟩
          · exact ⟨_, lt, _, .ref L', _, _, _, rfl, ⟨b4.trans (.of x3), x3 _ _ hn3, flA, .inr ⟨L', vs', es', rfl, hL', av', wy'⟩⟩, rfl⟩
  · exact ⟨_, rfl, rfl, _, rfl, iteT ⟨_, rfl, q1 t es H1 x1 wn⟩⟩
end
end Sv
namespace Sv
open PySem PySem.Spec PyProof.Rows L2
/-! ### value, least_places, Network(..), least -/
/-- a new thing, locked for good -/
def tFrz (te : TE) : TE := fun σ H Q => te σ H fun x H1 => ∃ d u, x = .ref d ∧ H1 d = some u ∧ Mut (some u) ∧ ∀ od, Q (.ref d) (upd H1 d (.frz od u))
theorem pe_frz {X : Cx} {e : Expr} {te : TE} (he : PE X e te) : PE X e (tFrz te) := by
  refine ⟨fun pins s σ H Q I h => thn (he.run pins s σ H _ I h) fun v s1 ⟨x, H1, I1, r1, d, u, ex, hd, mu, q⟩ => ?_⟩
  subst ex
  obtain ⟨od, I2⟩ := I1.lock hd mu
  exact ⟨.ref d, _, I2, r1, q od⟩
/-- a comprehension over the keys of a frozen dict (ints) -/
theorem lc_keysI {g : TG} {tt : TT} {te : TE} {vs : List Nat} {σ : L2.St} {H1 : Hp} {D : Addr} {Qd : Hp → Prop} {d : Addr} {o : Obj} {ks : List Int} {F : Key → V} (Pv : Nat → Hp → Prop) (h0 : Pv 0 (upd H1 D (.lst []))) (hl : ∀ i H', Pv i H' → H' d = some (.frz o (.dK (dG (ik ks) F))))
    (hs : ∀ i k H, ks[i]? = some k → Pv i H → g (.int k) (wipe σ vs) H fun σ2 H2 => wipe σ2 vs = wipe σ vs ∧ tt σ2 H2 fun b H3 =>
      if b = true then te σ2 H3 fun y H4 => ∃ acc, H4 D = some (.lst acc) ∧ acc.length < sizeLine ∧ Pv (i + 1) (upd H4 D (.lst (acc ++ [y]))) else Pv (i + 1) H3) (hd : ∀ H, Pv ks.length H → Qd H) :
    ∃ W : Nat → Nat → Hp → Prop, (∃ m, W 0 m (upd H1 D (.lst []))) ∧ ∀ i m H, W i m H →
      ((Itk d o (dG (ik ks) F)).stop i H ∧ Qd H) ∨ ((Itk d o (dG (ik ks) F)).go i H ∧ ∃ Nx : Hp → Prop, (∀ H', Nx H' → ∃ m', m' < m ∧ W (i + 1) m' H') ∧ ∀ x H', (Itk d o (dG (ik ks) F)).yld i H x H' → g x (wipe σ vs) H' fun σ2 H2 => wipe σ2 vs = wipe σ vs ∧ tt σ2 H2 fun b H3 =>
        if b = true then te σ2 H3 fun y H4 => ∃ acc, H4 D = some (.lst acc) ∧ acc.length < sizeLine ∧ Nx (upd H4 D (.lst (acc ++ [y]))) else Nx H3) := by
  refine ⟨fun i m H => m = ks.length - i ∧ i ≤ ks.length ∧ Pv i H, ⟨ks.length, rfl, Nat.zero_le _, h0⟩, ?_⟩
  rintro i m H2 ⟨rfl, hi, p⟩
  have w1 := hl _ _ p
  have ll : (dG (ik ks) F).length = ks.length := by rw [dg_len, List.length_map]
  rcases Nat.lt_or_ge i ks.length with c | c
  · have hx : ks[i]? = some ks[i] := List.getElem?_eq_getElem c
    refine .inr ⟨⟨w1, by rw [ll]; exact c⟩, Pv (i + 1), fun H' p' => ⟨ks.length - (i + 1), by omega, rfl, c, p'⟩, fun x H' y => ?_⟩
    obtain ⟨rfl, k, v, e1, rfl⟩ := y
    unfold dG at e1
    rw [List.getElem?_map, List.getElem?_map, hx] at e1
    cases e1
    exact hs i _ _ hx p
  · obtain rfl : i = ks.length := Nat.le_antisymm hi c
    exact .inl ⟨⟨w1, by rw [ll]; exact c⟩, hd _ p⟩
def spVal (K : PySem.W.Frag) : Sp := sp1 fun x H Q => ∃ N p dx ls lk dr dt dn tv f, x = .ref p ∧ N.W.Ok ∧ NetC K H N p dx ls lk dr dt dn tv ∧ H dn = some (numV N f) ∧ H dr = some (.dT (dA N.As fun a => oV (N.room a))) ∧ ∀ H', Ext H H' → Q (.int (val N f)) H'
def spLPl (K : PySem.W.Frag) : Sp := sp1 fun x H Q => ∃ N p dx ls lk dr dt dn tv f, x = .ref p ∧ N.Ok ∧ NetC K H N p dx ls lk dr dt dn tv ∧ H dn = some (numV N f) ∧ H dr = some (.dT (dA N.As fun a => oV (N.room a))) ∧
  ∀ L ns H', Ext H H' → SqL K H' L (List.map V.int ns) → (∀ k ∈ ns, InR N.W.n k) → ns.length < 60 → Q (.ref L) H'
section
variable {P : Program} {w : World} {K : PySem.W.Frag} {mg : PySem.Str → Option Value} {base : Heap}
theorem sc_Network_value : FnScope ["self", "arc"] ["self"] (defScope s_Network_value) := ⟨rfl, rfl, rfl, by decide +kernel, rfl, by decide +kernel, by decide +kernel⟩
theorem mt_Network_value (T : Txt K mg) : C8.Met P w K mg base 1 (He.ga K "Network") "value" (spVal K) [] := by
  obtain ⟨fd, F⟩ := T.f_Network_value
  refine metN T.c_Network T.m_Network_value F sc_Network_value (F.bindsN fun _ _ _ _ _ _ us hl => match us, hl with | [_], _ => rfl) len1 (fun cdv A outer s H vs Q E hr h => ?_)
  refine ⟨_, (pss_one (ps_ret (pe_callB (cr_sum rfl) (by rfl) T.b_sum (by decide +kernel) (pa_cons (pe_lock (pe_lc (own := [("arc", 1)]) (g := gName 1) (tt := _) rfl sc_Network_value.nd (pi_keys (pe_fld (pv 0) rfl)) (blkOk_by (own := [("arc", 1)]) (N := ["self", "arc"]) (sc := defScope s_Network_value) (by decide +kernel)) (fun _ _ _ _ _ => pg_name (i := 1) sc_Network_value.nd rfl (by first | exact Or.inl rfl | exact Or.inr rfl)) (fun _ _ _ _ _ => pts_one (pt_cmpR (op_inK K rfl) (pe_ix (ix_tupK K rfl) (pe_dget (hu_of hr) (pe_fldK K rfl (pv 0) rfl) (pv 1) (fun _ _ => rfl)) pe_int (fun _ _ => rfl)) (pe_fldK K rfl (pv 0) rfl) (by rfl))) (fun _ _ _ _ _ => (pe_dget (hu_of hr) (pe_fldK K rfl (pv 0) rfl) (pv 1) (fun _ _ => rfl))))) pa_nil)))), ?_⟩
  -- slots: 0:self 1:arc
  obtain ⟨x, rfl, N, p, dx, ls, lk, dr, dt, dn, tv, f, rfl, wok, c, hn, hdr, q⟩ := h
  have lin : 2000 < sizeLine := by rw [sizeLine_eq]; omega
  have lAs := N.len wok
  refine ⟨dr, _, hdr, True.intro, fun od => ?_⟩
  have cl := c.le (Le.lock (o := od) hdr True.intro (by intro _ _ _ z; cases z))
  have hd0 : upd H dr (.frz od (.dT (dA N.As fun a => oV (N.room a)))) dr = some (.frz od (.dT (dA N.As fun a => oV (N.room a)))) := upd_same
  have hn0 : upd H dr (.frz od (.dT (dA N.As fun a => oV (N.room a)))) dn = some (numV N f) := by rw [upd_ne c.ne1]; exact hn
  have uex : ∀ H', Ext (upd H dr (.frz od (.dT (dA N.As fun a => oV (N.room a))))) H' → Ext H (upd H' dr (.dT (dA N.As fun a => oV (N.room a)))) := fun H' x => unlock_ext hdr x
  generalize upd H dr (.frz od (.dT (dA N.As fun a => oV (N.room a)))) = H0 at cl hd0 hn0 uex ⊢
  refine ⟨_, rfl, p, _, dx, _, _, rfl, cl.ins, T.c_Network, T.n_Network_rooms, rfl, dr, od, rfl, .inr ⟨_, hd0, fun D hD => ?_⟩⟩
  refine lc_keys (fun i H' => ∃ ns : List Int, H' = upd H0 D (.lst (ns.map V.int)) ∧ ns.sum = sm (N.As.take i) (fun a => f a * ind ((N.tip a).1 ∈ N.S)) ∧ ns.length ≤ i) ⟨[], rfl, rfl, Nat.le_refl _⟩ (fun i H' z => ?_) ?_ ?_
  · obtain ⟨ns, rfl, _⟩ := z
    exact Ext.upd hD _ _ hd0
  · rintro i a b H' hi ⟨ns, rfl, es, ln⟩ hb
    have ha : a ∈ N.As := List.mem_of_getElem? hi
    have il := (List.getElem?_eq_some_iff.mp hi).1
    have x1 : Ext H0 (upd H0 D (.lst (ns.map V.int))) := Ext.upd hD
    have c1 := cl.ext x1
    obtain ⟨t, et, ht⟩ := c1.tipv a ha
    have e1 : sm (N.As.take (i + 1)) (fun a => f a * ind ((N.tip a).1 ∈ N.S)) = sm (N.As.take i) (fun a => f a * ind ((N.tip a).1 ∈ N.S)) + f a * ind ((N.tip a).1 ∈ N.S) := by
      rw [List.take_add_one, hi]
      unfold sm
      rw [List.map_append, List.sum_append]
      simp
    refine ⟨rfl, _, rfl, p, _, dx, _, _, rfl, c1.ins, T.c_Network, T.n_Network_tips, rfl, _, rfl, dt, tv a, rfl, .inr ⟨_, aK a, b, c1.tips, rfl, hb, by rw [dA_val, if_pos ha]⟩, t, _, _, _, et, rfl, ht, rfl, _, rfl, p, _, dx, _, _, rfl, c1.ins, T.c_Network, T.n_Network_sources, rfl, ls, _, rfl, .inl c1.src, rfl, flat_ints _, _, rfl, ?_⟩
    show if inV (V.int (N.tip a).1) (N.S.map V.int) = true then _ else _
    rw [inV_ints]
    by_cases hm : (N.tip a).1 ∈ N.S
    · rw [decide_eq_true hm]
      refine iteT ⟨_, rfl, p, _, dx, _, _, rfl, c1.ins, T.c_Network, T.n_Network_numbers, rfl, _, rfl, dn, .int (f a), rfl, .inr ⟨_, aK a, b, .inl (x1 _ _ hn0), rfl, hb, by rw [dA_val, if_pos ha]⟩, _, upd_same, by rw [List.length_map]; omega, ns ++ [f a], ?_, ?_, by rw [List.length_append, List.length_singleton]; omega⟩
      · rw [upd_upd, List.map_append]
        rfl
      · rw [e1, List.sum_append, es, ind_t hm]
        simp
    · rw [decide_eq_false hm]
      refine iteF ⟨ns, rfl, ?_, by omega⟩
      rw [e1, es, ind_f hm]
      simp
  · rintro H' ⟨ns, rfl, es, ln⟩
    rw [List.take_length] at es
    have x1 : Ext H0 (upd H0 D (.lst (ns.map V.int))) := Ext.upd hD
    have nD : D ≠ dr := (ne_of_none hd0 hD).symm
    refine ⟨x1 _ _ hd0, D, ns, rfl, .of (by rw [upd_ne nD, upd_same]), ?_⟩
    rw [es]
    exact q _ (uex _ x1)
theorem sc_Network_least_places : FnScope ["self", "place"] ["self"] (defScope s_Network_least_places) := ⟨rfl, rfl, rfl, by decide +kernel, rfl, by decide +kernel, by decide +kernel⟩
theorem mt_Network_least_places (T : Txt K mg) : C8.Met P w K mg base 4 (He.ga K "Network") "least_places" (spLPl K) [] := by
  obtain ⟨fd, F⟩ := T.f_Network_least_places
  refine metN T.c_Network T.m_Network_least_places F sc_Network_least_places (F.bindsN fun _ _ _ _ _ _ us hl => match us, hl with | [_], _ => rfl) len1 (fun cdv A outer s H vs Q E hr h => ?_)
  refine ⟨_, (pss_one (ps_ret (pe_lc (own := [("place", 1)]) (g := gName 1) (tt := _) rfl sc_Network_least_places.nd (pi_keys (pe_frz (C8.pe_mt (mt_Network_met_from T) hr (by decide) (pv 0) (pa_cons (pe_fld (pv 0) rfl) pa_nil)))) (blkOk_by (own := [("place", 1)]) (N := ["self", "place"]) (sc := defScope s_Network_least_places) (by decide +kernel)) (fun _ _ _ _ _ => pg_name (i := 1) sc_Network_least_places.nd rfl (by first | exact Or.inl rfl | exact Or.inr rfl)) (fun _ _ _ _ _ => pts_one (pt_cmpR op_ne (pv 1) (C8.pe_gc rfl T.i_OUTSIDE_flows) (nomark _))) (fun _ _ _ _ _ => (pv 1))))), ?_⟩
  -- slots: 0:self 1:place
  obtain ⟨x, rfl, N, p, dx, ls, lk, dr, dt, dn, tv, f, rfl, nok, c, hn, hdr, q⟩ := h
  have lin : 2000 < sizeLine := by rw [sizeLine_eq]; omega
  have n1 := nok.w.n1
  refine ⟨_, rfl, p, dx, _, rfl, c.ins, rfl, _, rfl, p, _, dx, _, _, rfl, c.ins, T.c_Network, T.n_Network_sources, rfl, _, _, rfl, N, p, dx, ls, lk, dr, dt, dn, tv, f, ls, rfl, rfl, nok, c, hn, hdr, c.src, fun D tr mv H1 fD x1 hD trk mvk clo nd un => ?_⟩
  have lks : (ksF N.S tr).length ≤ 25 := by
    have := nodup_le _ _ nd un
    rw [uni_len] at this
    omega
  refine ⟨D, _, rfl, hD, True.intro, fun od => ?_⟩
  have x2 : Ext H (upd H1 D (.frz od (.dK (dG (ik (ksF N.S tr)) mv)))) := x1.put fD
  have hD2 : upd H1 D (.frz od (.dK (dG (ik (ksF N.S tr)) mv))) D = some (.frz od (.dK (dG (ik (ksF N.S tr)) mv))) := upd_same
  generalize upd H1 D (.frz od (.dK (dG (ik (ksF N.S tr)) mv))) = H2 at x2 hD2 ⊢
  refine ⟨D, od, rfl, .inl ⟨_, hD2, fun L hL => ?_⟩⟩
  refine lc_keysI (fun i H' => H' = upd H2 L (.lst ((((ksF N.S tr).take i).filter fun k => decide (k ≠ -1)).map V.int))) rfl (fun i H' z => ?_) ?_ ?_
  · rw [z]
    exact Ext.upd hL _ _ hD2
  · rintro i k H' hi rfl
    have il := (List.getElem?_eq_some_iff.mp hi).1
    refine ⟨rfl, _, rfl, rfl, _, rfl, ?_⟩
    show if (!decide (V.int k = V.int (-1))) = true then _ else _
    have e0 : (ksF N.S tr).take (i + 1) = (ksF N.S tr).take i ++ [k] := by
      rw [List.take_add_one, hi]
      rfl
    by_cases hk : k = -1
    · rw [decide_eq_true (show V.int k = V.int (-1) by rw [hk])]
      refine iteF ?_
      rw [e0, List.filter_append, List.filter_cons_of_neg (by simp [hk]), List.filter_nil, List.append_nil]
    · rw [decide_eq_false (show ¬ V.int k = V.int (-1) from fun z => hk (V.int.inj z))]
      refine iteT ⟨_, rfl, _, upd_same, ?_, ?_⟩
      · rw [List.length_map]
        have := List.length_filter_le (fun k => decide (k ≠ -1)) ((ksF N.S tr).take i)
        rw [List.length_take] at this
        omega
      · rw [upd_upd, e0, List.filter_append, List.filter_cons_of_pos (by simp [hk]), List.filter_nil, List.map_append]
        rfl
  · rintro H' rfl
    rw [List.take_length]
    refine q L _ _ (x2.trans (Ext.upd hL)) (.of upd_same) (fun k hk => ?_) ?_
    · obtain ⟨h1, h2⟩ := List.mem_filter.mp hk
      have h2' : k ≠ -1 := by simpa using h2
      rcases List.mem_cons.mp (un k h1) with z | z
      · exact absurd z h2'
      · exact mem_below.mp z
    · have := List.length_filter_le (fun k => decide (k ≠ -1)) (ksF N.S tr)
      omega
end
end Sv
namespace Sv
open PySem PySem.Spec PyProof.Rows L2
/-! ### Network(..) -/
theorem pe_ixP {X : Cx} {k : Nat} {a b : Expr} {ta tb : TE} {pos : Pos} (T : Txt X.K X.mg) (hr : Room (k + 5) X.A) (ha : PE X a ta) (hb : PE X b tb)
    (hsl : ∀ o i, subscripted b true o i = runValue (.builtin "lifetime.subscript" ⟨[o, i], []⟩) := by intros; with_unfolding_all rfl) : PE X (.Subscript a b pos) (tIxO (cPr X.K) (spGetP X.K) ta tb) := by
  obtain ⟨f, fd, ps, ds, c, m, F, bd, d⟩ := (mt_Prices_getitem (P := X.prog) (w := X.w) (base := X.base) T).ex
  cases d
  have ef : f = He.ma X.K (He.ga X.K "Prices") "__getitem__" := by
    have h1 := m.at_
    have h2 := T.m_Prices_getitem.at_
    rw [h1] at h2
    simpa using h2
  subst ef
  obtain ⟨fd', F'⟩ := T.f_Prices_getitem
  obtain ⟨oc, od, _, _, _, _, _, _, _, osl, _, lk, _⟩ := F'.ex
  exact pe_ixO m (fnIn_of m.fn ⟨oc, od, _, osl, lk⟩) F bd (hr.mono (by omega)) ha hb hsl
theorem pr_but {K : PySem.W.Frag} {H H' : Hp} {p C dx : Addr} {x : V} {W : WD} {sv bk : List (Option Int)} (B : But p H H') (hp : H p = some (.ins C dx [])) (h : IsPr K H x W sv bk) : IsPr K H' x W sv bk := by
  obtain ⟨q, dx', w, ts, tb, rfl, a, b, c, d, e⟩ := h
  have ne : q ≠ p := fun z => by
    rw [z, hp] at a
    cases a
  exact ⟨q, dx', w, ts, tb, rfl, B _ _ ne a, web_but B hp b, SqT.bi B hp c, SqT.bi B hp d, e⟩
/-- all but two dicts stay -/
def But2 (d e : Addr) (H H' : Hp) : Prop := ∀ a u, a ≠ d → a ≠ e → H a = some u → H' a = some u
theorem But2.im {d e : Addr} {H H' : Hp} {k1 k2 : List (List Key × V)} (b : But2 d e H H') (h1 : H d = some (.dT k1)) (h2 : H e = some (.dT k2)) : Im H H' := by
  have nd : ∀ {a u}, H a = some u → (∀ k, u ≠ .dT k) → H' a = some u := fun {a u} h n => b _ _ (fun z => by rw [z, h1] at h; exact n _ (Option.some.inj h).symm) (fun z => by rw [z, h2] at h; exact n _ (Option.some.inj h).symm) h
  exact ⟨fun a xs r => r.imp (fun r => nd r (by intro _ z; cases z)) fun ⟨o, r⟩ => ⟨o, nd r (by intro _ z; cases z)⟩, fun a C dx fs r => nd r (by intro _ z; cases z)⟩
theorem But2.tup {d e : Addr} {H H' : Hp} {k1 k2 : List (List Key × V)} (b : But2 d e H H') (h1 : H d = some (.dT k1)) (h2 : H e = some (.dT k2)) : Td H H' := fun a xs h => b _ _ (ne_of h h1 (by intro z; cases z)) (ne_of h h2 (by intro z; cases z)) h
theorem But2.trans {d e : Addr} {H H1 H2 : Hp} (a : But2 d e H H1) (b : But2 d e H1 H2) : But2 d e H H2 := fun c u n m h => b c u n m (a c u n m h)
theorem But2.of {d e : Addr} {H H1 : Hp} (x : Ext H H1) : But2 d e H H1 := fun c u _ _ h => x c u h
def keepA (N : ND) (a : Ak) : Bool := !decide ((N.tip a).2 ∈ N.S) && !decide ((N.tip a).1 = -1)
def spNetI (K : PySem.W.Frag) : Sp := sp4 fun x y z u H Q => ∃ N p dx a b, x = .ref p ∧ H p = some (.ins (cNet K) dx []) ∧ N.Ok ∧ IsPr K H y N.W N.sv N.bk ∧ z = .ref a ∧ SqT K H a (List.map V.int N.S) ∧ u = .ref b ∧ SqT K H b [] ∧
  ∀ ls lk dr dt dn tv H', H dn = none → But p H H' → NetC K H' N p dx ls lk dr dt dn tv → H' dn = some (numV N fun _ => 0) → H' dr = some (.dT (dA N.As fun a => oV (N.room a))) → Q .non H'
section
variable {P : Program} {w : World} {K : PySem.W.Frag} {mg : PySem.Str → Option Value} {base : Heap}
theorem sc_Network_init : FnScope ["self", "prices", "sources", "sinks", "arc", "before", "behind"] ["self", "prices", "sources", "sinks"] (defScope s_Network_init) := ⟨rfl, rfl, rfl, by decide +kernel, rfl, by decide +kernel, by decide +kernel⟩
theorem mk_Network (T : Txt K mg) : C8.Mak P w K mg base 6 "Network" (He.ga K "Network") (spNetI K) [] := by
  obtain ⟨fd, F⟩ := T.f_Network_init
  refine makN T.k_Network T.g_Network F sc_Network_init (F.bindsN fun _ _ _ _ _ _ us hl => match us, hl with | [_, _, _, _], _ => rfl) len4 (fun cdv A outer s H vs Q E hr h => ?_)
  refine ⟨_, (pss_cons (ps_fld (pv 0) (pe_callTy call_list_of (by rfl) T.b_list (by decide +kernel) (pa_cons (pv 2) pa_nil)) rfl)
      (pss_cons (ps_fld (pv 0) (pe_lst (StX.pa_star (pv 3) (pa_cons (C8.pe_gc rfl T.i_OUTSIDE_flows) pa_nil))) rfl)
      (pss_cons (ps_fld (pv 0) (pe_fld (pe_fld (pv 1) rfl) rfl) rfl)
      (pss_cons (ps_fld (pv 0) pe_dnewT rfl)
      (pss_cons (ps_fld (pv 0) pe_dnewT rfl)
      (C8.pss_cut (ps_for PassesOwn.never rfl (pi_tup (C8.pe_c (c_arcs T) hr (by decide) rfl (pa_cons (pe_fld (pv 1) rfl) pa_nil))) (pg_name (i := 4) sc_Network_init.nd rfl (by first | exact Or.inl rfl | exact Or.inr rfl))
      (pss_cons (ps_asg (C8.pe_c (c_ends_of_arc T) hr (by decide) rfl (pa_cons (pe_fld (pv 1) rfl) (pa_cons (pv 4) pa_nil))) (pg_tup (by rfl) (pgs_cons (pg_name (i := 5) sc_Network_init.nd rfl (by first | exact Or.inl rfl | exact Or.inr rfl)) (pgs_cons (pg_name (i := 6) sc_Network_init.nd rfl (by first | exact Or.inl rfl | exact Or.inr rfl)) pgs_nil))))
      (pss_one (ps_if (PW.pt (pw_and (pt_cmpR op_notIn_seq (pv 6) (pe_fld (pv 0) rfl) (by rfl)) (pw_and1 (pt_cmpR op_notIn_seq (pv 5) (pe_fld (pv 0) rfl) (by rfl))))) (pss_cons (ps_dput (hu_of hr) (pe_fld (pv 0) rfl) (pv 4) (pe_ixP T hr (pv 1) (pv 4)) rfl)
      (pss_one (ps_dput (hu_of hr) (pe_fld (pv 0) rfl) (pv 4) (pe_tup (pa_cons (pv 5) (pa_cons (pv 6) pa_nil))) rfl)))
      pss_nil))))
      (pss_one (ps_fld (pv 0) (pe_lock (pe_dcT (own := [("arc", 4)]) (g := gName 4) (tt := tYes) (hu_of hr) rfl sc_Network_init.nd (pi_keys (pe_fld (pv 0) rfl)) (blkOk_by (own := [("arc", 4)]) (N := ["self", "prices", "sources", "sinks", "arc", "before", "behind"]) (sc := defScope s_Network_init) (by decide +kernel)) (fun _ _ _ _ _ => pg_name (i := 4) sc_Network_init.nd rfl (by first | exact Or.inl rfl | exact Or.inr rfl)) (fun _ _ _ _ _ => pts_nil) (fun _ _ _ _ _ => (pv 4)) (fun _ _ _ _ _ => pe_int))) rfl)))))))), ?_⟩
  -- slots: 0:self 1:prices 2:sources 3:sinks 4:arc 5:before 6:behind
  obtain ⟨x, y, z, u, rfl, N, p, dx, a, b, rfl, hp, nok, hpr, rfl, hs, rfl, hb, q⟩ := h
  have lin : 2000 < sizeLine := by rw [sizeLine_eq]; omega
  have lAs := N.len nok.w
  obtain ⟨pq, dq, wq, ts, tb, rfl, hq, hw, hsv, hbk, lsv, lbk⟩ := id hpr
  obtain ⟨pw, dw, te, tx, rfl, hpw, _⟩ := id hw
  refine ⟨_, rfl, a, _, rfl, .inr hs, fun ls hls => ⟨_, rfl, p, _, dx, _, rfl, Ext.upd hls _ _ hp, T.c_Network, T.n_Network_sources, (by show 0 < 1000; decide), ?_⟩⟩
  have n1 : ls ≠ p := (ne_of_none hp hls).symm
  have B1 : But p H (upd (upd H ls (.lst (N.S.map V.int))) p (.ins (cNet K) dx (putF "sources" (.ref ls) []))) := (But.of (Ext.upd hls)).trans .put
  have p1 : upd (upd H ls (.lst (N.S.map V.int))) p (.ins (cNet K) dx (putF "sources" (.ref ls) [])) p = some (.ins (cNet K) dx [("sources", .ref ls)]) := upd_same
  have ls1 : upd (upd H ls (.lst (N.S.map V.int))) p (.ins (cNet K) dx (putF "sources" (.ref ls) [])) ls = some (.lst (N.S.map V.int)) := by rw [upd_ne n1, upd_same]
  generalize upd (upd H ls (.lst (N.S.map V.int))) p (.ins (cNet K) dx (putF "sources" (.ref ls) [])) = H1 at B1 p1 ls1 ⊢
  refine ⟨_, rfl, b, _, rfl, .inl (SqT.bi B1 hp hb), by show 1 ≤ sizeLine; omega, fun lk hlk => ⟨_, rfl, p, _, dx, _, rfl, Ext.upd hlk _ _ p1, T.c_Network, T.n_Network_sinks, (by show 1 < 1000; decide), ?_⟩⟩
  have n2 : lk ≠ p := (ne_of_none p1 hlk).symm
  have B2 : But p H1 (upd (upd H1 lk (.lst [.int (-1)])) p (.ins (cNet K) dx (putF "sinks" (.ref lk) [("sources", .ref ls)]))) := (But.of (Ext.upd hlk)).trans .put
  have p2 : upd (upd H1 lk (.lst [.int (-1)])) p (.ins (cNet K) dx (putF "sinks" (.ref lk) [("sources", .ref ls)])) p = some (.ins (cNet K) dx [("sources", .ref ls), ("sinks", .ref lk)]) := upd_same
  have lk2 : upd (upd H1 lk (.lst [.int (-1)])) p (.ins (cNet K) dx (putF "sinks" (.ref lk) [("sources", .ref ls)])) lk = some (.lst [.int (-1)]) := by rw [upd_ne n2, upd_same]
  have ls2 := B2 _ _ n1 ls1
  show tSeq _ _ _ _ (upd (upd H1 lk (.lst [.int (-1)])) p (.ins (cNet K) dx (putF "sinks" (.ref lk) [("sources", .ref ls)])))
  generalize upd (upd H1 lk (.lst [.int (-1)])) p (.ins (cNet K) dx (putF "sinks" (.ref lk) [("sources", .ref ls)])) = H2 at B2 p2 ls2 lk2 ⊢
  have npq : pq ≠ p := fun z => by
    rw [z, hp] at hq
    exact absurd (HO.ins.inj (Option.some.inj hq)).2.2 (by intro q; cases q)
  have npw : pw ≠ p := fun z => by
    rw [z, hp] at hpw
    exact absurd (HO.ins.inj (Option.some.inj hpw)).2.2 (by intro q; cases q)
  have B02 := B1.trans B2
  refine ⟨_, rfl, pq, _, dq, _, _, rfl, B02 _ _ npq hq, T.c_Prices, T.n_Prices_web, rfl, pw, _, dw, _, _, rfl, B02 _ _ npw hpw, T.c_Web, T.n_Web_places, rfl, _, rfl, p, _, dx, _, rfl, p2, T.c_Network, T.n_Network_places, (by show 2 < 1000; decide), ?_⟩
  have B3 : But p H2 (upd H2 p (.ins (cNet K) dx (putF "places" (.int N.W.n) [("sources", .ref ls), ("sinks", .ref lk)]))) := .put
  have p3 : upd H2 p (.ins (cNet K) dx (putF "places" (.int N.W.n) [("sources", .ref ls), ("sinks", .ref lk)])) p = some (.ins (cNet K) dx [("sources", .ref ls), ("sinks", .ref lk), ("places", .int N.W.n)]) := upd_same
  have ls3 := B3 _ _ n1 ls2
  have lk3 := B3 _ _ n2 lk2
  show tSeq _ _ _ _ (upd H2 p (.ins (cNet K) dx (putF "places" (.int N.W.n) [("sources", .ref ls), ("sinks", .ref lk)])))
  generalize upd H2 p (.ins (cNet K) dx (putF "places" (.int N.W.n) [("sources", .ref ls), ("sinks", .ref lk)])) = H3 at B3 p3 ls3 lk3 ⊢
  intro dr hdr
  refine ⟨_, rfl, p, _, dx, _, rfl, Ext.upd hdr _ _ p3, T.c_Network, T.n_Network_rooms, (by show 3 < 1000; decide), ?_⟩
  have nr : dr ≠ p := (ne_of_none p3 hdr).symm
  have nrls : ls ≠ dr := ne_of_none ls3 hdr
  have nrlk : lk ≠ dr := ne_of_none lk3 hdr
  have B4 : But p H3 (upd (upd H3 dr (.dT [])) p (.ins (cNet K) dx (putF "rooms" (.ref dr) [("sources", .ref ls), ("sinks", .ref lk), ("places", .int N.W.n)]))) := (But.of (Ext.upd hdr)).trans .put
  have p4 : upd (upd H3 dr (.dT [])) p (.ins (cNet K) dx (putF "rooms" (.ref dr) [("sources", .ref ls), ("sinks", .ref lk), ("places", .int N.W.n)])) p = some (.ins (cNet K) dx [("sources", .ref ls), ("sinks", .ref lk), ("places", .int N.W.n), ("rooms", .ref dr)]) := upd_same
  have dr4 : upd (upd H3 dr (.dT [])) p (.ins (cNet K) dx (putF "rooms" (.ref dr) [("sources", .ref ls), ("sinks", .ref lk), ("places", .int N.W.n)])) dr = some (.dT []) := by rw [upd_ne nr, upd_same]
  have ls4 := B4 _ _ n1 ls3
  have lk4 := B4 _ _ n2 lk3
  show tSeq _ _ _ _ (upd (upd H3 dr (.dT [])) p (.ins (cNet K) dx (putF "rooms" (.ref dr) [("sources", .ref ls), ("sinks", .ref lk), ("places", .int N.W.n)])))
  generalize upd (upd H3 dr (.dT [])) p (.ins (cNet K) dx (putF "rooms" (.ref dr) [("sources", .ref ls), ("sinks", .ref lk), ("places", .int N.W.n)])) = H4 at B4 p4 ls4 lk4 dr4 ⊢
  intro dt hdt
  refine ⟨_, rfl, p, _, dx, _, rfl, Ext.upd hdt _ _ p4, T.c_Network, T.n_Network_tips, (by show 4 < 1000; decide), ?_⟩
  have nt : dt ≠ p := (ne_of_none p4 hdt).symm
  have ntls : ls ≠ dt := ne_of_none ls4 hdt
  have ntlk : lk ≠ dt := ne_of_none lk4 hdt
  have ntdr : dr ≠ dt := ne_of_none dr4 hdt
  have B5 : But p H4 (upd (upd H4 dt (.dT [])) p (.ins (cNet K) dx (putF "tips" (.ref dt) [("sources", .ref ls), ("sinks", .ref lk), ("places", .int N.W.n), ("rooms", .ref dr)]))) := (But.of (Ext.upd hdt)).trans .put
  have p5 : upd (upd H4 dt (.dT [])) p (.ins (cNet K) dx (putF "tips" (.ref dt) [("sources", .ref ls), ("sinks", .ref lk), ("places", .int N.W.n), ("rooms", .ref dr)])) p = some (.ins (cNet K) dx [("sources", .ref ls), ("sinks", .ref lk), ("places", .int N.W.n), ("rooms", .ref dr), ("tips", .ref dt)]) := upd_same
  have dt5 : upd (upd H4 dt (.dT [])) p (.ins (cNet K) dx (putF "tips" (.ref dt) [("sources", .ref ls), ("sinks", .ref lk), ("places", .int N.W.n), ("rooms", .ref dr)])) dt = some (.dT []) := by rw [upd_ne nt, upd_same]
  have ls5 := B5 _ _ n1 ls4
  have lk5 := B5 _ _ n2 lk4
  have dr5 := B5 _ _ nr dr4
  show C8.tCut _ _ _ _ (upd (upd H4 dt (.dT [])) p (.ins (cNet K) dx (putF "tips" (.ref dt) [("sources", .ref ls), ("sinks", .ref lk), ("places", .int N.W.n), ("rooms", .ref dr)])))
  generalize upd (upd H4 dt (.dT [])) p (.ins (cNet K) dx (putF "tips" (.ref dt) [("sources", .ref ls), ("sinks", .ref lk), ("places", .int N.W.n), ("rooms", .ref dr)])) = H5 at B5 p5 ls5 lk5 dr5 dt5 ⊢
  have B : But p H H5 := (((B02.trans B3).trans B4).trans B5)
  have hpr5 := pr_but B hp hpr
  have hw5 := web_but B hp hw
  obtain ⟨pq', dq', wq', ts', tb', e1, hq5, hw5', _⟩ := id hpr5
  cases e1
  have hq5' : H5 pq = some (.ins (cPr K) dq [("web", .ref pw), ("saves", .ref ts), ("backs", .ref tb)]) := B _ _ npq hq
  have hpw5 := B _ _ npw hpw
  refine ⟨fun σ' H' => ∃ tv v4 v5 v6, σ' = [some (.ref p), some (.ref pq), some (.ref a), some (.ref b), v4, v5, v6] ∧ But2 dr dt H5 H' ∧ H' dr = some (.dT (dA N.As fun a => oV (N.room a))) ∧ H' dt = some (.dT (dA N.As tv)) ∧ ∀ a ∈ N.As, ∃ t, tv a = .ref t ∧ H' t = some (.tup [.int (N.tip a).1, .int (N.tip a).2]), ?_, ?_⟩
  · refine ⟨_, rfl, pq, _, dq, _, _, rfl, hq5', T.c_Prices, T.n_Prices_web, rfl, _, rfl, N.W, hw5, nok.w, fun t vs H6 x6 ht av => ?_⟩
    refine ⟨t, rfl, ⟨_, ht⟩, for_tup (K := K) (a := t) (xs := vs) (fun i σ H' => ∃ tv v4 v5 v6, σ = [some (.ref p), some (.ref pq), some (.ref a), some (.ref b), v4, v5, v6] ∧ But2 dr dt H6 H' ∧ H' dr = some (.dT (dA (((arcsF N.W.G).take i).filter (keepA N)) fun a => oV (N.room a))) ∧ H' dt = some (.dT (dA (((arcsF N.W.G).take i).filter (keepA N)) tv)) ∧
      ∀ a ∈ ((arcsF N.W.G).take i).filter (keepA N), ∃ t, tv a = .ref t ∧ H' t = some (.tup [.int (N.tip a).1, .int (N.tip a).2])) ⟨fun _ => .non, _, _, _, rfl, fun _ _ _ _ h => h, x6 _ _ dr5, x6 _ _ dt5, fun a ha => by simp at ha⟩ (fun i σ H' _ z => ?_) ?_ ?_⟩
    · obtain ⟨_, _, _, _, _, b2, _⟩ := z
      exact ht.im (b2.im (x6 _ _ dr5) (x6 _ _ dt5))
    · rintro i v σ H' hi ⟨tv, v4, v5, v6, rfl, b2, hr', ht', tv'⟩
      obtain ⟨x, hx, m, rfl, hm⟩ := av.get hi
      have im := b2.im (x6 _ _ dr5) (x6 _ _ dt5)
      have td := b2.tup (x6 _ _ dr5) (x6 _ _ dt5)
      have hm' := td _ _ hm
      have im5 : Im H5 H' := (Im.of x6).trans im
      have xin : x ∈ arcsF N.W.G := List.mem_of_getElem? hx
      refine ⟨_, rfl, pq, _, dq, _, _, rfl, im5.ins _ _ _ _ hq5', T.c_Prices, T.n_Prices_web, rfl, _, rfl, _, _, rfl, N.W, m, x, hw5.im im5, nok.w, rfl, .of hm', arcsF_lt xin, fun t' H7 x7 ht7 => ?_⟩
      have im7 : Im H5 H7 := im5.trans (Im.of x7)
      have ls7 : H7 ls = some (.lst (N.S.map V.int)) := x7 _ _ (b2 _ _ nrls ntls (x6 _ _ ls5))
      have lk7 : H7 lk = some (.lst [.int (-1)]) := x7 _ _ (b2 _ _ nrlk ntlk (x6 _ _ lk5))
      have p7 := im7.ins _ _ _ _ p5
      have b7 : But2 dr dt H6 H7 := b2.trans (.of x7)
      have hr7 := x7 _ _ hr'
      have ht7' := x7 _ _ ht'
      have tv7 : ∀ a ∈ ((arcsF N.W.G).take i).filter (keepA N), ∃ t, tv a = .ref t ∧ H7 t = some (.tup [.int (N.tip a).1, .int (N.tip a).2]) := fun a ha => (tv' a ha).imp fun t z => ⟨z.1, x7 _ _ z.2⟩
      have lAi : (((arcsF N.W.G).take i).filter (keepA N)).length ≤ 282 := by
        have h1 := List.length_filter_le (keepA N) ((arcsF N.W.G).take i)
        rw [List.length_take] at h1
        have h2 := arcsF_len N.W.G
        have h3 := nok.w.lG
        omega
      have e1 : (arcsF N.W.G).take (i + 1) = (arcsF N.W.G).take i ++ [x] := by
        rw [List.take_add_one, hx]
        rfl
      have drop : ∀ v4 v5 v6, keepA N x = false → ∃ tv w4 w5 w6, ([some (.ref p), some (.ref pq), some (.ref a), some (.ref b), v4, v5, v6] : L2.St) = [some (.ref p), some (.ref pq), some (.ref a), some (.ref b), w4, w5, w6] ∧ But2 dr dt H6 H7 ∧ H7 dr = some (.dT (dA (((arcsF N.W.G).take (i + 1)).filter (keepA N)) fun a => oV (N.room a))) ∧ H7 dt = some (.dT (dA (((arcsF N.W.G).take (i + 1)).filter (keepA N)) tv)) ∧
          ∀ a ∈ ((arcsF N.W.G).take (i + 1)).filter (keepA N), ∃ t, tv a = .ref t ∧ H7 t = some (.tup [.int (N.tip a).1, .int (N.tip a).2]) := fun v4 v5 v6 hk => by
        have e2 : ((arcsF N.W.G).take (i + 1)).filter (keepA N) = ((arcsF N.W.G).take i).filter (keepA N) := by
          rw [e1, List.filter_append, List.filter_cons_of_neg (by rw [hk]; exact Bool.false_ne_true), List.filter_nil, List.append_nil]
        rw [e2]
        exact ⟨tv, v4, v5, v6, rfl, b7, hr7, ht7', tv7⟩
      have et : tipF N.W.G x = N.tip x := rfl
      rw [et] at ht7
      refine ⟨t', _, rfl, .of ht7, rfl, _, _, rfl, _, _, rfl, rfl, ?_⟩
      refine ⟨_, rfl, _, rfl, p, _, dx, _, _, rfl, p7, T.c_Network, T.n_Network_sources, rfl, ls, _, rfl, .inl (.of ls7), rfl, flat_ints _, _, rfl, ?_⟩
      show if (!inV (V.int (N.tip x).2) (N.S.map V.int)) = true then _ else _
      rw [inV_ints]
      by_cases k1 : (N.tip x).2 ∈ N.S
      · rw [decide_eq_true k1]
        exact iteF (iteF (drop _ _ _ (by unfold keepA; rw [decide_eq_true k1]; rfl)))
      · rw [decide_eq_false k1]
        refine iteT ⟨_, rfl, _, rfl, p, _, dx, _, _, rfl, p7, T.c_Network, T.n_Network_sinks, rfl, lk, _, rfl, .inl (.of lk7), rfl, rfl, _, rfl, ?_⟩
        show if (!inV (V.int (N.tip x).1) ([(-1 : Int)].map V.int)) = true then _ else _
        rw [inV_ints]
        by_cases k2 : (N.tip x).1 = -1
        · rw [decide_eq_true (show (N.tip x).1 ∈ [(-1 : Int)] by rw [k2]; exact List.mem_singleton.mpr rfl)]
          exact iteF (drop _ _ _ (by unfold keepA; rw [decide_eq_true k2]; simp))
        · rw [decide_eq_false (show ¬ (N.tip x).1 ∈ [(-1 : Int)] from fun z => k2 (List.mem_singleton.mp z))]
          have hk : keepA N x = true := by
            unfold keepA
            rw [decide_eq_false k1, decide_eq_false k2]
            rfl
          have e2 : ((arcsF N.W.G).take (i + 1)).filter (keepA N) = ((arcsF N.W.G).take i).filter (keepA N) ++ [x] := by
            rw [e1, List.filter_append, List.filter_cons_of_pos hk, List.filter_nil]
          have xnot : ¬ x ∈ ((arcsF N.W.G).take i).filter (keepA N) := fun z => nodup_take (arcsF_nodup _) hx (List.mem_filter.mp z).1
          have hm7 := x7 _ _ hm'
          have hpr7 := hpr5.im im7
          refine iteT ⟨_, rfl, _, rfl, pq, dq, _, rfl, im7.ins _ _ _ _ hq5', _, _, rfl, N.W, N.sv, N.bk, m, x.1, x.2, hpr7, rfl, .of hm7, arcsF_lt xin, ?_⟩
          refine ⟨_, rfl, p, _, dx, _, _, rfl, p7, T.c_Network, T.n_Network_rooms, rfl, _, rfl, dr, _, rfl, DPut.t (k := aK x) hr7 hm7 (by rw [dA_len]; omega), ?_⟩
          have b8 : But2 dr dt H7 (upd H7 dr (.dT (putK (dA (((arcsF N.W.G).take i).filter (keepA N)) fun a => oV (N.room a)) (aK x) (oV ((if x.2 then N.sv else N.bk).getD x.1 none))))) := fun c u h1 _ h => by rw [upd_ne h1]; exact h
          have hr8 : upd H7 dr (.dT (putK (dA (((arcsF N.W.G).take i).filter (keepA N)) fun a => oV (N.room a)) (aK x) (oV ((if x.2 then N.sv else N.bk).getD x.1 none)))) dr = some (.dT (dA (((arcsF N.W.G).take i).filter (keepA N) ++ [x]) fun a => oV (N.room a))) := by
            rw [upd_same, dA_new xnot]
            refine congrArg some (congrArg HO.dT (dA_congr fun y _ => ?_))
            by_cases q : y = x
            · rw [if_pos q, q]
              rfl
            · rw [if_neg q]
          have ht8 : upd H7 dr (.dT (putK (dA (((arcsF N.W.G).take i).filter (keepA N)) fun a => oV (N.room a)) (aK x) (oV ((if x.2 then N.sv else N.bk).getD x.1 none)))) dt = some (.dT (dA (((arcsF N.W.G).take i).filter (keepA N)) tv)) := by rw [upd_ne ntdr.symm]; exact ht7'
          have td8 := b8.tup hr7 ht7'
          have im8 := b8.im hr7 ht7'
          refine ⟨_, rfl, _, rfl, by show 2 ≤ sizeLine; omega, fun mt hmt => ?_⟩
          have x9 := Ext.upd (o := .tup [.int (N.tip x).1, .int (N.tip x).2]) hmt
          have nmt : mt ≠ dt := (ne_of_none ht8 hmt).symm
          refine ⟨_, rfl, p, _, dx, _, _, rfl, x9 _ _ (im8.ins _ _ _ _ p7), T.c_Network, T.n_Network_tips, rfl, _, rfl, dt, _, rfl, DPut.t (k := aK x) (x9 _ _ ht8) (x9 _ _ (td8 _ _ hm7)) (by rw [dA_len]; omega), ?_⟩
          have ht9 := x9 _ _ ht8
          have td9 := Td.put (o := .dT (putK (dA (((arcsF N.W.G).take i).filter (keepA N)) tv) (aK x) (.ref mt))) ht9 (by intro _ z; cases z)
          refine ⟨fun y => if y = x then .ref mt else tv y, _, _, _, rfl, ?_, ?_, ?_, ?_⟩
          · intro c u h1 h2 h
            rw [upd_ne h2]
            exact x9 _ _ (b8 _ _ h1 h2 (b7 _ _ h1 h2 h))
          · rw [upd_ne ntdr, e2]
            exact x9 _ _ hr8
          · rw [upd_same, e2, dA_new xnot]
          · intro y hy
            rw [e2] at hy
            rcases List.mem_append.mp hy with hy | hy
            · have hne : y ≠ x := fun z => xnot (by rw [← z]; exact hy)
              obtain ⟨t1, q1, q2⟩ := tv7 y hy
              exact ⟨t1, (if_neg hne).trans q1, td9 _ _ (x9 _ _ (td8 _ _ q2))⟩
            · rw [List.mem_singleton.mp hy]
              exact ⟨mt, if_pos rfl, td9 _ _ upd_same⟩
    · rintro σ H' ⟨tv, v4, v5, v6, rfl, b2, hr', ht', tv'⟩
      rw [av.len, List.take_length] at hr' ht' tv'
      exact ⟨tv, v4, v5, v6, rfl, (But2.of x6).trans b2, hr', ht', tv'⟩
  · rintro σ' H6 ⟨tv, v4, v5, v6, rfl, b2, hr', ht', tv'⟩
    have p6 := b2 _ _ nr.symm nt.symm p5
    have im := b2.im dr5 dt5
    refine ⟨dr, _, hr', True.intro, fun od => ?_⟩
    have hd0 : upd H6 dr (.frz od (.dT (dA N.As fun a => oV (N.room a)))) dr = some (.frz od (.dT (dA N.As fun a => oV (N.room a)))) := upd_same
    have p0 : upd H6 dr (.frz od (.dT (dA N.As fun a => oV (N.room a)))) p = some (.ins (cNet K) dx [("sources", .ref ls), ("sinks", .ref lk), ("places", .int N.W.n), ("rooms", .ref dr), ("tips", .ref dt)]) := by rw [upd_ne nr.symm]; exact p6
    have t0 : upd H6 dr (.frz od (.dT (dA N.As fun a => oV (N.room a)))) dt = some (.dT (dA N.As tv)) := by rw [upd_ne ntdr.symm]; exact ht'
    have nn : ∀ c, upd H6 dr (.frz od (.dT (dA N.As fun a => oV (N.room a)))) c = none → H6 c = none := fun c h => by
      by_cases q : c = dr
      · rw [q, upd_same] at h
        cases h
      · rwa [upd_ne q] at h
    have uex : ∀ H', Ext (upd H6 dr (.frz od (.dT (dA N.As fun a => oV (N.room a))))) H' → Ext H6 (upd H' dr (.dT (dA N.As fun a => oV (N.room a)))) := fun H' x => unlock_ext hr' x
    generalize upd H6 dr (.frz od (.dT (dA N.As fun a => oV (N.room a)))) = H7 at hd0 p0 t0 uex nn ⊢
    refine ⟨_, rfl, p, _, dx, _, _, rfl, p0, T.c_Network, T.n_Network_rooms, rfl, dr, od, rfl, .inr ⟨_, hd0, fun D hD => ?_⟩⟩
    refine ⟨fun i H' => H' = upd H7 D (.dT (dA (N.As.take i) fun _ => .int 0)), N.As.length, rfl, fun H' h => ?_, fun i H' hi h => ?_⟩
    · subst h
      have x8 : Ext H7 (upd H7 D (.dT (dA (N.As.take N.As.length) fun _ => .int 0))) := Ext.upd hD
      refine ⟨⟨x8 _ _ hd0, by rw [dA_len]; exact Nat.le_refl _⟩, x8 _ _ hd0, ?_⟩
      have nD : D ≠ dr := (ne_of_none hd0 hD).symm
      have nDp : D ≠ p := (ne_of_none p0 hD).symm
      have x9 := uex _ x8
      have hDD : upd (upd H7 D (.dT (dA (N.As.take N.As.length) fun _ => .int 0))) dr (.dT (dA N.As fun a => oV (N.room a))) D = some (numV N fun _ => 0) := by
        rw [upd_ne nD, upd_same, List.take_length]
        rfl
      refine ⟨_, rfl, p, _, dx, _, rfl, x9 _ _ p6, T.c_Network, T.n_Network_numbers, (by show 5 < 1000; decide), ?_⟩
      generalize upd (upd H7 D (.dT (dA (N.As.take N.As.length) fun _ => .int 0))) dr (.dT (dA N.As fun a => oV (N.room a))) = H9 at x9 hDD ⊢
      have nDt : D ≠ dt := (ne_of_none t0 hD).symm
      have Bf : But p H (upd H9 p (.ins (cNet K) dx (putF "numbers" (.ref D) [("sources", .ref ls), ("sinks", .ref lk), ("places", .int N.W.n), ("rooms", .ref dr), ("tips", .ref dt)]))) := fun c u h1 h2 => by
        have c3 := (B02.trans B3) c u h1 h2
        rw [upd_ne h1]
        exact x9 _ _ (b2 _ _ (ne_of_none c3 hdr) (ne_of_none (B4 _ _ h1 c3) hdt) (B _ _ h1 h2))
      have hDn : H D = none := by
        cases e : H D with
        | none => rfl
        | some u =>
          have c3 := (B02.trans B3) D u nDp e
          have := b2 D u (ne_of_none c3 hdr) (ne_of_none (B4 _ _ nDp c3) hdt) (B D u nDp e)
          rw [nn D hD] at this
          cases this
      refine q ls lk dr dt D tv _ hDn Bf ⟨upd_same, .of ?_, .of ?_, .inl ?_, .inl ?_, fun a ha => ?_, nD, nDt⟩ ?_ ?_
      · rw [upd_ne n1]
        exact x9 _ _ (b2 _ _ nrls ntls ls5)
      · rw [upd_ne n2]
        exact x9 _ _ (b2 _ _ nrlk ntlk lk5)
      · rw [upd_ne nr]
        exact x9 _ _ hr'
      · rw [upd_ne nt]
        exact x9 _ _ ht'
      · obtain ⟨t1, q1, q2⟩ := tv' a ha
        exact ⟨t1, q1, .of (Td.put (x9 _ _ p6) (by intro _ z; cases z) _ _ (x9 _ _ q2))⟩
      · rw [upd_ne nDp]
        exact hDD
      · rw [upd_ne nr]
        exact x9 _ _ hr'
    · subst h
      have x8 : Ext H7 (upd H7 D (.dT (dA (N.As.take i) fun _ => .int 0))) := Ext.upd hD
      refine ⟨⟨x8 _ _ hd0, by rw [dA_len]; exact hi⟩, fun x H'' y => ?_⟩
      obtain ⟨rfl, k, v, m, e1, rfl, e2⟩ := y
      have hx : N.As[i]? = some N.As[i] := List.getElem?_eq_getElem hi
      unfold dA at e1
      rw [List.getElem?_map, hx] at e1
      cases e1
      have xnot := nodup_take N.nodup hx
      refine ⟨rfl, _, rfl, _, aK N.As[i], m, rfl, e2, upd_same, by rw [dA_len, List.length_take]; omega, ?_⟩
      show upd _ D _ = upd H7 D (.dT (dA (N.As.take (i + 1)) fun _ => .int 0))
      rw [upd_upd, dA_new xnot, List.take_add_one, hx]
      refine congrArg _ (congrArg HO.dT (dA_congr fun y _ => ?_))
      exact ite_self _
end
end Sv
namespace Sv
open PySem PySem.Spec PyProof.Rows L2
/-! ### least -/
theorem asc_ext : ∀ {l m : List Int}, Asc l → Asc m → (∀ k, k ∈ l ↔ k ∈ m) → l = m
  | [], [], _, _, _ => rfl
  | [], y :: m, _, _, h => absurd ((h y).mpr List.mem_cons_self) (by simp)
  | x :: l, [], _, _, h => absurd ((h x).mp List.mem_cons_self) (by simp)
  | x :: l, y :: m, h1, h2, h => by
    obtain ⟨a1, a2⟩ := List.pairwise_cons.mp h1
    obtain ⟨b1, b2⟩ := List.pairwise_cons.mp h2
    have e : x = y := by
      rcases List.mem_cons.mp ((h x).mp List.mem_cons_self) with z | z
      · exact z
      · rcases List.mem_cons.mp ((h y).mpr List.mem_cons_self) with w | w
        · exact w.symm
        · have := b1 x z
          have := a1 y w
          omega
    subst e
    rw [asc_ext (l := l) (m := m) a2 b2 fun k => ?_]
    constructor
    · intro hk
      rcases List.mem_cons.mp ((h k).mp (List.mem_cons_of_mem _ hk)) with z | z
      · have := a1 k hk
        omega
      · exact z
    · intro hk
      rcases List.mem_cons.mp ((h k).mpr (List.mem_cons_of_mem _ hk)) with z | z
      · have := b1 k hk
        omega
      · exact z
theorem asc_nodup {l : List Int} (h : Asc l) : l.Nodup := List.Pairwise.imp (fun {a b} z => by omega) h
/-- what least tells: the least cost of a cut, or that all are barred -/
def LeastC (N : ND) (c : Option Int) : Prop := (c = none ∧ ∀ L : List Int, (∀ k ∈ N.S, k ∈ L) → ¬ (-1 : Int) ∈ L → cutF N L = none) ∨
  ∃ v, c = some v ∧ (∃ L : List Int, L.Nodup ∧ (∀ k ∈ N.S, k ∈ L) ∧ ¬ (-1 : Int) ∈ L ∧ (∀ k ∈ L, k ∈ Uni N) ∧ cutF N L = some v) ∧ ∀ L : List Int, L.Nodup → (∀ k ∈ N.S, k ∈ L) → ¬ (-1 : Int) ∈ L → ∀ c, cutF N L = some c → v ≤ c
def IsLeast (K : PySem.W.Frag) (H : Hp) (x : V) (c : Option Int) : Prop := ∃ p dx b d e, x = .ref p ∧ H p = some (.ins (cLeast K) dx [("cost", oV c), ("lot", b), ("flow", d), ("row", e)])
def spLeastI (K : PySem.W.Frag) : Sp := sp5 fun x y z u v H Q => ∃ p dx, x = .ref p ∧ H p = some (.ins (cLeast K) dx []) ∧ ∀ H', But p H H' → H' p = some (.ins (cLeast K) dx [("cost", y), ("lot", z), ("flow", u), ("row", v)]) → Q .non H'
theorem least_mk {K : PySem.W.Frag} {H1 : Hp} {y z u v : V} {c : Option Int} {Q : VK} {E : XK} (hy : y = oV c) (k : ∀ x H', Ext H1 H' → IsLeast K H' x c → Q x H') (x dx : Addr) (hx : H1 x = none) (hd : H1 dx = none) (ne : dx ≠ x) :
    spLeastI K [.ref x, y, z, u, v] (upd (upd H1 dx (.own x)) x (.ins (cLeast K) dx [])) (fun v H2 => v = .non ∧ Q (.ref x) H2) E :=
  ⟨_, _, _, _, _, rfl, x, dx, rfl, upd_same, fun H' B h => ⟨rfl, k _ H' (mk_ext hx hd ne B) ⟨x, dx, z, u, v, rfl, by rw [← hy]; exact h⟩⟩⟩
theorem net_mk {K : PySem.W.Frag} {H1 : Hp} {y : V} {a b : Addr} {N : ND} {Q : VK} {E : XK} {x dx : Addr} (hx : H1 x = none) (hd : H1 dx = none) (ne : dx ≠ x) (ok : N.Ok) (hpr : IsPr K H1 y N.W N.sv N.bk) (hs : SqT K H1 a (N.S.map V.int)) (hb : SqT K H1 b [])
    (k : ∀ dx ls lk dr dt dn tv H', Ext H1 H' → NetC K H' N x dx ls lk dr dt dn tv → H' dn = some (numV N fun _ => 0) → H' dr = some (.dT (dA N.As fun a => oV (N.room a))) → H1 dn = none → Q .non H') :
    spNetI K [.ref x, y, .ref a, .ref b] (upd (upd H1 dx (.own x)) x (.ins (cNet K) dx [])) Q E :=
  ⟨_, _, _, _, rfl, N, x, dx, a, b, rfl, upd_same, ok, hpr.ext (mk_in hx hd ne), rfl, hs.ext (mk_in hx hd ne), rfl, hb.ext (mk_in hx hd ne), fun ls lk dr dt dn tv H' fn B c hn hr => k dx ls lk dr dt dn tv H' (mk_ext hx hd ne B) c hn hr ((mk_in hx hd ne).non fn)⟩
theorem lot_mk' {K : PySem.W.Frag} {H1 : Hp} {a : Addr} {ns : List Int} {Q : VK} {E : XK} {x dx : Addr} (hx : H1 x = none) (hd : H1 dx = none) (ne : dx ≠ x) (hi : Itb K H1 a ns) (h0 : ∀ k ∈ ns, 0 ≤ k) (hl : ns.length < 60) (k : ∀ ms H', Ext H1 H' → IsLot K H' (.ref x) ms → (∀ k, k ∈ ms ↔ k ∈ ns) → Q .non H') :
    spLotI K [.ref x, .ref a] (upd (upd H1 dx (.own x)) x (.ins (cLot K) dx [])) Q E :=
  ⟨_, _, rfl, x, dx, a, ns, rfl, rfl, upd_same, hi.ext (mk_in hx hd ne), h0, hl, fun t ms H' b hp ht asc mem => k ms H' (mk_ext hx hd ne b) ⟨x, dx, t, rfl, hp, ht, asc⟩ mem⟩
def spLeast (K : PySem.W.Frag) : Sp := sp3 fun x y z H Q => ∃ N, N.Ok ∧ IsW K H x N.W ∧ IsLot K H y N.S ∧ IsPr K H z N.W N.sv N.bk ∧ ∀ c r H', Ext H H' → LeastC N c → IsLeast K H' r c → Q r H'
section
variable {P : Program} {w : World} {K : PySem.W.Frag} {mg : PySem.Str → Option Value} {base : Heap}
theorem sc_Least_init : FnScope ["self", "cost", "lot", "flow", "row"] ["self", "cost", "lot", "flow", "row"] (defScope s_Least_init) := ⟨rfl, rfl, rfl, by decide +kernel, rfl, by decide +kernel, by decide +kernel⟩
theorem mk_Least (T : Txt K mg) : C8.Mak P w K mg base 1 "Least" (He.ga K "Least") (spLeastI K) [] := by
  obtain ⟨fd, F⟩ := T.f_Least_init
  refine makN T.k_Least T.g_Least F sc_Least_init (F.bindsN fun _ _ _ _ _ _ us hl => match us, hl with | [_, _, _, _, _], _ => rfl) len5 (fun cdv A outer s H vs Q E hr h => ?_)
  refine ⟨_, (pss_cons (ps_fld (pv 0) (pv 1) rfl)
      (pss_cons (ps_fld (pv 0) (pv 2) rfl)
      (pss_cons (ps_fld (pv 0) (pv 3) rfl)
      (pss_one (ps_fld (pv 0) (pv 4) rfl))))), ?_⟩
  -- slots: 0:self 1:cost 2:lot 3:flow 4:row
  obtain ⟨x, y, z, u, v, rfl, p, dx, rfl, hp, q⟩ := h
  refine ⟨_, rfl, _, rfl, p, _, dx, _, rfl, hp, T.c_Least, T.n_Least_cost, (by show 0 < 1000; decide), ?_⟩
  refine ⟨_, rfl, _, rfl, p, _, dx, _, rfl, upd_same, T.c_Least, T.n_Least_lot, (by show 1 < 1000; decide), ?_⟩
  refine ⟨_, rfl, _, rfl, p, _, dx, _, rfl, upd_same, T.c_Least, T.n_Least_flow, (by show 2 < 1000; decide), ?_⟩
  refine ⟨_, rfl, _, rfl, p, _, dx, _, rfl, upd_same, T.c_Least, T.n_Least_row, (by show 3 < 1000; decide), ?_⟩
  exact q _ (((But.put.trans .put).trans .put).trans .put) upd_same
theorem sc_least : FnScope ["web", "uses", "prices", "network", "row", "flow", "arc"] ["web", "uses", "prices"] (defScope s_least) := ⟨rfl, rfl, rfl, by decide +kernel, rfl, by decide +kernel, by decide +kernel⟩
theorem c_least (T : Txt K mg) : C8.Cal P w K mg base 8 "least" (spLeast K) [] := by
  obtain ⟨fd, F⟩ := T.f_least
  refine calN F T.g_least sc_least (F.bindsN fun _ _ _ _ _ _ us hl => match us, hl with | [_, _, _], _ => rfl) len3 (fun cdv A outer s H vs Q E hr h => ?_)
  refine ⟨_, (pss_cons (ps_set (i := 1) sc_least.nd rfl (by first | exact Or.inl rfl | exact Or.inr rfl) (C8.pe_mk (mk_Lot T) hr (by decide) rfl (pa_cons (pv 1) pa_nil)))
      (pss_cons (ps_expr (C8.pe_c (c_check_places T) hr (by decide) rfl (pa_cons (pv 0) (pa_cons (pv 1) pa_nil))))
      (pss_cons (ps_expr (C8.pe_c (c_check_web T) hr (by decide) rfl (pa_cons (pv 0) (pa_cons (pv 2) pa_nil))))
      (pss_cons (ps_set (i := 3) sc_least.nd rfl (by first | exact Or.inl rfl | exact Or.inr rfl) (C8.pe_mk (mk_Network T) hr (by decide) rfl (pa_cons (pv 2) (pa_cons (pe_fld (pv 1) rfl) (pa_cons (pe_tup pa_nil) pa_nil)))))
      (pss_cons (ps_set (i := 4) sc_least.nd rfl (by first | exact Or.inl rfl | exact Or.inr rfl) (C8.pe_mt0 (mt_Network_fill T) hr (by decide) (pv 3)))
      (pss_cons (ps_if (pt_cmpR op_notN (pv 4) pe_non (nomark _)) (pss_one (ps_ret (C8.pe_mk (mk_Least T) hr (by decide) rfl (pa_cons pe_non (pa_cons pe_non (pa_cons pe_non (pa_cons (pv 4) pa_nil)))))))
      pss_nil)
      (pss_cons (ps_lock (ps_setDcT (i := 5) (own := [("arc", 6)]) (g := gName 6) (tt := _) (hu_of hr) rfl sc_least.nd rfl rfl (sw_trueD rfl rfl rfl (by decide +kernel)) (pi_keys (pe_fld (pv 3) rfl)) (blkOk_by (own := [("arc", 6)]) (N := ["web", "uses", "prices", "network", "row", "flow", "arc"]) (sc := defScope s_least) (by decide +kernel)) (fun _ _ _ _ _ => pg_name (i := 6) sc_least.nd rfl (by first | exact Or.inl rfl | exact Or.inr rfl)) (fun _ _ _ _ _ => pts_one (pt_cmpR op_gt (pe_dget (hu_of hr) (pe_fldK K rfl (pv 3) rfl) (pv 6) (fun _ _ => rfl)) pe_int (nomark _))) (fun _ _ _ _ _ => (pv 6)) (fun _ _ _ _ _ => (pe_dget (hu_of hr) (pe_fldK K rfl (pv 3) rfl) (pv 6) (fun _ _ => rfl)))))
      (pss_one (ps_ret (C8.pe_mk (mk_Least T) hr (by decide) rfl (pa_cons (C8.pe_mt0 (mt_Network_value T) hr (by decide) (pv 3)) (pa_cons (C8.pe_mk (mk_Lot T) hr (by decide) rfl (pa_cons (C8.pe_mt0 (mt_Network_least_places T) hr (by decide) (pv 3)) pa_nil)) (pa_cons (pv 5) (pa_cons pe_non pa_nil)))))))))))))), ?_⟩
  -- slots: 0:web 1:uses 2:prices 3:network 4:row 5:flow 6:arc
  obtain ⟨x, y, z, rfl, N, nok, hw, hl, hpr, q⟩ := h
  obtain ⟨a, rfl, hi⟩ := hl.itb
  have hasc : Asc N.S := hl.elim fun _ z => z.elim fun _ z => z.elim fun _ z => z.2.2.2
  have n1 := nok.w.n1
  have lin : 2000 < sizeLine := by rw [sizeLine_eq]; omega
  have lS : N.S.length ≤ 24 := by
    have := nodup_le N.S (below N.W.n) nok.nd fun k hk => mem_below.mpr (nok.ss k hk)
    rw [below_len] at this
    omega
  refine ⟨_, rfl, fun xl dl hxl hdl nel => lot_mk' hxl hdl nel hi (fun k hk => (nok.ss k hk).1) (by omega) fun ms H1 x1 lot mem => ⟨rfl, ?_⟩⟩
  obtain ⟨_, _, _, _, _, _, asc⟩ := id lot
  obtain rfl : ms = N.S := asc_ext asc hasc mem
  refine ⟨_, rfl, _, rfl, _, _, rfl, N.W, N.S, hw.ext x1, lot, fun k hk => (nok.ss k hk).2, ?_⟩
  refine ⟨_, rfl, _, rfl, _, _, rfl, N.W, N.sv, N.bk, hw.ext x1, hpr.ext x1, fun H2 y2 => ?_⟩
  have x2' := x1.trans y2
  obtain ⟨pl, dl2, tl, el, hpl, htl, _⟩ := lot.im (.of y2)
  cases el
  have s1 : ¬ (-1 : Int) ∈ N.S := fun z => by
    have := (nok.ss _ z).1
    omega
  refine ⟨_, rfl, _, rfl, xl, _, dl2, _, _, rfl, hpl, T.c_Lot, T.n_Lot_places, rfl, by show 0 ≤ sizeLine; omega, fun te hte xn dn' hxn hdn nen => ?_⟩
  have x3 : Ext H2 (upd H2 te (.tup [])) := Ext.upd hte
  have x03 := x2'.trans x3
  refine net_mk hxn hdn nen nok (hpr.ext x03) (htl.ext x3) (.of upd_same) fun dx ls lk dr dt dn tv H4 x4 c hn hdr fdn => ⟨rfl, ?_⟩
  have x04 := x03.trans x4
  have fdn0 : H dn = none := x03.non fdn
  refine ⟨_, rfl, xn, dx, _, rfl, c.ins, rfl, _, rfl, N, xn, dx, ls, lk, dr, dt, dn, tv, _, rfl, nok, c, hn, fl_zero N nok, hdr, fun t es H5 x5 wy => ?_, fun f H5 b5 hn5 fl5 sh5 => ?_⟩
  · refine ⟨_, rfl, rfl, _, rfl, iteT ⟨_, rfl, fun xq dq hxq hdq neq => ?_⟩⟩
    refine ⟨_, _, _, _, _, rfl, xq, dq, rfl, upd_same, fun H' B h => ⟨rfl, ?_⟩⟩
    exact q none (.ref xq) H' (x04.trans (x5.trans (mk_ext hxq hdq neq B))) (.inl ⟨rfl, fun L h1 h2 => way_bar wy h1 h2⟩) ⟨xq, dq, _, _, _, rfl, h⟩
  · have c5 := c.butn b5 hn
    have hdr5 : H5 dr = some (.dT (dA N.As fun a => oV (N.room a))) := b5 _ _ c.ne1.symm hdr
    have x05 : Ext H H5 := b5.ext x04 fdn0
    refine ⟨_, rfl, rfl, _, rfl, iteF ?_⟩
    have lAs := N.len nok.w
    refine ⟨dr, _, hdr5, True.intro, fun od => ?_⟩
    have c6 := c5.le (Le.lock (o := od) hdr5 True.intro (by intro _ _ _ z; cases z))
    have hd0 : upd H5 dr (.frz od (.dT (dA N.As fun a => oV (N.room a)))) dr = some (.frz od (.dT (dA N.As fun a => oV (N.room a)))) := upd_same
    have hn6 : upd H5 dr (.frz od (.dT (dA N.As fun a => oV (N.room a)))) dn = some (numV N f) := by rw [upd_ne c.ne1]; exact hn5
    have uex : ∀ H', Ext (upd H5 dr (.frz od (.dT (dA N.As fun a => oV (N.room a))))) H' → Ext H5 (upd H' dr (.dT (dA N.As fun a => oV (N.room a)))) := fun H' x => unlock_ext hdr5 x
    generalize upd H5 dr (.frz od (.dT (dA N.As fun a => oV (N.room a)))) = H6 at c6 hd0 hn6 uex ⊢
    refine ⟨_, rfl, xn, _, dx, _, _, rfl, c6.ins, T.c_Network, T.n_Network_rooms, rfl, dr, od, rfl, .inr ⟨_, hd0, fun D hD => ?_⟩⟩
    refine ⟨fun i H' => H' = upd H6 D (.dT (dA ((N.As.take i).filter fun a => decide (0 < f a)) fun a => .int (f a))), N.As.length, rfl, fun H' h => ?_, fun i H' hi h => ?_⟩
    · subst h
      have x7 : Ext H6 (upd H6 D (.dT (dA ((N.As.take N.As.length).filter fun a => decide (0 < f a)) fun a => .int (f a)))) := Ext.upd hD
      refine ⟨⟨x7 _ _ hd0, by rw [dA_len]; exact Nat.le_refl _⟩, x7 _ _ hd0, ?_⟩
      have x8 := uex _ x7
      generalize upd (upd H6 D (.dT (dA ((N.As.take N.As.length).filter fun a => decide (0 < f a)) fun a => .int (f a)))) dr (.dT (dA N.As fun a => oV (N.room a))) = H8 at x8 ⊢
      have c8 := c5.ext x8
      refine ⟨_, rfl, xn, dx, _, rfl, c8.ins, rfl, _, rfl, N, xn, dx, ls, lk, dr, dt, dn, tv, f, rfl, nok.w, c8, x8 _ _ hn5, x8 _ _ hdr5, fun H9 x9 => ?_⟩
      have x89 := x8.trans x9
      have c9 := c5.ext x89
      refine ⟨_, rfl, xn, dx, _, rfl, c9.ins, rfl, _, rfl, N, xn, dx, ls, lk, dr, dt, dn, tv, f, rfl, nok, c9, x89 _ _ hn5, x89 _ _ hdr5, fun L ns H10 x10 hL ir ln xm dm hxm hdm nem => ?_⟩
      refine lot_mk' hxm hdm nem ⟨_, .l hL⟩ (fun k hk => (ir k hk).1) ln fun ms H11 x11 lot2 _ => ⟨rfl, _, rfl, fun xq dq hxq hdq neq => ?_⟩
      refine ⟨_, _, _, _, _, rfl, xq, dq, rfl, upd_same, fun H' B h => ⟨rfl, ?_⟩⟩
      exact q (some (val N f)) (.ref xq) H' (x05.trans (x89.trans (x10.trans (x11.trans (mk_ext hxq hdq neq B))))) (.inr ⟨val N f, rfl, dual_eq nok fl5 sh5, fun L hL hS h1 c hc => dual_le fl5 nok.nd hL hS h1 hc⟩) ⟨xq, dq, _, _, _, rfl, h⟩
    · subst h
      have x7 : Ext H6 (upd H6 D (.dT (dA ((N.As.take i).filter fun a => decide (0 < f a)) fun a => .int (f a)))) := Ext.upd hD
      refine ⟨⟨x7 _ _ hd0, by rw [dA_len]; exact hi⟩, fun x H'' y => ?_⟩
      obtain ⟨rfl, k, v, m, e1, rfl, e2⟩ := y
      have hx : N.As[i]? = some N.As[i] := List.getElem?_eq_getElem hi
      have hin : N.As[i] ∈ N.As := List.getElem_mem hi
      unfold dA at e1
      rw [List.getElem?_map, hx] at e1
      cases e1
      have c7 := c6.ext x7
      have get : DGet (upd H6 D (.dT (dA ((N.As.take i).filter fun a => decide (0 < f a)) fun a => .int (f a)))) dn (.ref m) (some (.int (f N.As[i]))) := .inr ⟨_, aK N.As[i], m, .inl (x7 _ _ hn6), rfl, e2, by rw [dA_val, if_pos hin]⟩
      have e0 : N.As.take (i + 1) = N.As.take i ++ [N.As[i]] := by
        rw [List.take_add_one, hx]
        rfl
      refine ⟨rfl, _, rfl, xn, _, dx, _, _, rfl, c7.ins, T.c_Network, T.n_Network_numbers, rfl, _, rfl, dn, _, rfl, get, _, _, rfl, rfl, _, rfl, ?_⟩
      by_cases pos : 0 < f N.As[i]
      · rw [decide_eq_true pos]
        refine iteT ⟨_, rfl, _, rfl, xn, _, dx, _, _, rfl, c7.ins, T.c_Network, T.n_Network_numbers, rfl, _, rfl, dn, _, rfl, get, _, aK N.As[i], m, rfl, e2, upd_same, ?_, ?_⟩
        · rw [dA_len]
          have := List.length_filter_le (fun a => decide (0 < f a)) (N.As.take i)
          rw [List.length_take] at this
          omega
        · show upd _ D _ = upd H6 D _
          have xnot : ¬ N.As[i] ∈ (N.As.take i).filter fun a => decide (0 < f a) := fun z => nodup_take N.nodup hx (List.mem_filter.mp z).1
          rw [upd_upd, dA_new xnot, e0, List.filter_append, List.filter_cons_of_pos (by simp [pos]), List.filter_nil]
          refine congrArg _ (congrArg HO.dT (dA_congr fun y _ => ?_))
          by_cases h : y = N.As[i]
          · rw [if_pos h, h]
          · rw [if_neg h]
      · rw [decide_eq_false pos]
        refine iteF ?_
        show upd H6 D _ = upd H6 D _
        rw [e0, List.filter_append, List.filter_cons_of_neg (by simp [pos]), List.filter_nil, List.append_nil]
end
end Sv
namespace Sv
open PySem PySem.Spec PyProof.Rows L2
/-! ### tasks -/
def letters : PySem.Str := "abcdefghijklmnopqrstuvwxyz"
structure GoodN (n : PySem.Str) : Prop where
  l1 : 1 ≤ n.cps.size
  l8 : n.cps.size ≤ 8
  le : ∀ c ∈ n.cps.toList, c ∈ letters.cps.toList
abbrev SL := List (PySem.Str × List Int)
def sk (ss : SL) : List Key := ss.map fun s => Sum.inr s.1
theorem mem_sk {ss : SL} {n : PySem.Str} : (Sum.inr n : Key) ∈ sk ss ↔ n ∈ ss.map Prod.fst := by
  unfold sk
  rw [List.mem_map, List.mem_map]
  constructor
  · rintro ⟨s, h, e⟩
    exact ⟨s, h, Sum.inr.inj e⟩
  · rintro ⟨s, h, e⟩
    exact ⟨s, h, by rw [e]⟩
/-- a dict of names to lists, tuples or lots of places -/
def SeatsIn (K : PySem.W.Frag) (H : Hp) (d : Addr) (ss : SL) : Prop := ∃ F : Key → V, H d = some (.dK (dG (sk ss) F)) ∧ ∀ s ∈ ss, ∃ a, F (Sum.inr s.1) = .ref a ∧ Itb K H a s.2
/-- .. of lots -/
def SeatsT (K : PySem.W.Frag) (H : Hp) (d : Addr) (ss : SL) : Prop := ∃ F : Key → V, H d = some (.dK (dG (sk ss) F)) ∧ ∀ s ∈ ss, IsLot K H (F (Sum.inr s.1)) s.2
theorem IsLot.ext {K : PySem.W.Frag} {H H' : Hp} {x : V} {ns : List Int} (h : IsLot K H x ns) (e : Ext H H') : IsLot K H' x ns := h.im (.of e)
theorem SeatsT.ext {K : PySem.W.Frag} {H H' : Hp} {d : Addr} {ss : SL} (h : SeatsT K H d ss) (e : Ext H H') : SeatsT K H' d ss := by
  obtain ⟨F, h1, h2⟩ := h
  exact ⟨F, e _ _ h1, fun s hs => (h2 s hs).ext e⟩
theorem SeatsT.ins {K : PySem.W.Frag} {H : Hp} {d : Addr} {ss : SL} (h : SeatsT K H d ss) : SeatsIn K H d ss := by
  obtain ⟨F, h1, h2⟩ := h
  refine ⟨F, h1, fun s hs => ?_⟩
  exact (h2 s hs).itb
/-- the same seats: names and, of each, the places -/
structure SEq (a b : SL) : Prop where
  na : (a.map Prod.fst).Nodup
  nb : (b.map Prod.fst).Nodup
  nm : ∀ n, n ∈ a.map Prod.fst ↔ n ∈ b.map Prod.fst
  mm : ∀ s ∈ a, ∀ t ∈ b, s.1 = t.1 → ∀ k, k ∈ s.2 ↔ k ∈ t.2
  asc : ∀ s ∈ a, Asc s.2
structure SsOk (n : Int) (ss : SL) : Prop where
  l1 : 1 ≤ ss.length
  l4 : ss.length ≤ 4
  nd : (ss.map Prod.fst).Nodup
  gn : ∀ s ∈ ss, GoodN s.1
  ip : ∀ s ∈ ss, ∀ k ∈ s.2, InR n k
  lu : ∀ s ∈ ss, s.2.length < 60
def IsTask (K : PySem.W.Frag) (H : Hp) (x : V) (W : WD) (ss : SL) (sv bk : List (Option Int)) : Prop := ∃ p dx w d pr, x = .ref p ∧ H p = some (.ins (cTask K) dx [("web", w), ("seats", .ref d), ("prices", pr)]) ∧ IsW K H w W ∧ SeatsT K H d ss ∧ IsPr K H pr W sv bk
theorem IsTask.ext {K : PySem.W.Frag} {H H' : Hp} {x : V} {W : WD} {ss : SL} {sv bk : List (Option Int)} (h : IsTask K H x W ss sv bk) (e : Ext H H') : IsTask K H' x W ss sv bk := by
  obtain ⟨p, dx, w, d, pr, rfl, a, b, c, g⟩ := h
  exact ⟨p, dx, w, d, pr, rfl, e _ _ a, b.ext e, c.ext e, g.ext e⟩
/-- a task with these seats, in some order -/
def TaskOf (K : PySem.W.Frag) (H : Hp) (x : V) (W : WD) (ss : SL) (sv bk : List (Option Int)) : Prop := ∃ ts, IsTask K H x W ts sv bk ∧ SEq ts ss ∧ SsOk W.n ts
theorem TaskOf.ext {K : PySem.W.Frag} {H H' : Hp} {x : V} {W : WD} {ss : SL} {sv bk : List (Option Int)} (h : TaskOf K H x W ss sv bk) (e : Ext H H') : TaskOf K H' x W ss sv bk := h.imp fun _ z => ⟨z.1.ext e, z.2⟩
def spGoodName : Sp := sp1 fun x H Q => ∃ n, x = .str n ∧ GoodN n ∧ ∀ H', Ext H H' → Q (.bl true) H'
def spSumN (K : PySem.W.Frag) : Sp := sp1 fun x H Q => ∃ a os, x = .ref a ∧ SqL K H a (List.map oV os) ∧ ∀ H', Ext H H' → Q (oV (osum os)) H'
def spUsesOf (K : PySem.W.Frag) : Sp := sp2 fun x y H Q => ∃ W a ns, IsW K H x W ∧ y = .ref a ∧ Itb K H a ns ∧ (∀ k ∈ ns, InR W.n k) ∧ ns.length < 60 ∧ ∀ z ms H', Ext H H' → IsLot K H' z ms → (∀ k, k ∈ ms ↔ k ∈ ns) → Q z H'
theorem inV_os (os : List (Option Int)) : inV .non (os.map oV) = decide (none ∈ os) := by
  unfold inV
  induction os with
  | nil => rfl
  | cons o os ih =>
    rw [List.map_cons, List.any_cons, ih]
    cases o with
    | none => simp [oV, eqV]
    | some i => simp [oV, eqV]
theorem flat_os (os : List (Option Int)) : (os.map oV).all flatV = true := by
  rw [List.all_eq_true]
  intro x hx
  obtain ⟨o, _, rfl⟩ := List.mem_map.mp hx
  cases o <;> rfl
/-- a comprehension over the signs of a text -/
theorem lcD_str {K : PySem.W.Frag} {z : PySem.Str} {g : TG} {tt : TT} {te : TE} {vs : List Nat} {σ : L2.St} {H1 : Hp} {D : Addr} {Qd : Hp → Prop} (F : Nat → Option PyData) (n : H1 D = none) (hz : z.cps.size ≤ sizeLine)
    (hs : ∀ i c H (Nx : Hp → Prop), z.cps[i]? = some c → Ext H1 (Off D H) → Turn K D H (F i) Nx → g (.str ⟨#[c]⟩) (wipe σ vs) H fun σ2 H2 => wipe σ2 vs = wipe σ vs ∧ tt σ2 H2 fun b H3 =>
      if b = true then te σ2 H3 fun y H4 => ∃ acc, H4 D = some (.lst acc) ∧ acc.length < sizeLine ∧ Nx (upd H4 D (.lst (acc ++ [y]))) else Nx H3)
    (hd : ∀ H, Made K H1 D ((List.range z.cps.size).filterMap F) H → Qd H) :
    ∃ W : Nat → Nat → Hp → Prop, (∃ m, W 0 m (upd H1 D (.lst []))) ∧ ∀ i m H, W i m H →
      ((Its z).stop i H ∧ Qd H) ∨ ((Its z).go i H ∧ ∃ Nx : Hp → Prop, (∀ H', Nx H' → ∃ m', m' < m ∧ W (i + 1) m' H') ∧ ∀ x H', (Its z).yld i H x H' → g x (wipe σ vs) H' fun σ2 H2 => wipe σ2 vs = wipe σ vs ∧ tt σ2 H2 fun b H3 =>
        if b = true then te σ2 H3 fun y H4 => ∃ acc, H4 D = some (.lst acc) ∧ acc.length < sizeLine ∧ Nx (upd H4 D (.lst (acc ++ [y]))) else Nx H3) := by
  refine ⟨fun i m H1' => m = z.cps.size - i ∧ i ≤ z.cps.size ∧ MadeI K H1 D F i H1', ⟨z.cps.size, rfl, Nat.zero_le _, .new n⟩, ?_⟩
  rintro i m H2 ⟨rfl, hi, p⟩
  rcases Nat.lt_or_ge i z.cps.size with c | c
  · refine .inr ⟨c, MadeI K H1 D F (i + 1), fun H' p' => ⟨z.cps.size - (i + 1), by omega, rfl, c, p'⟩, fun x H' y => ?_⟩
    obtain ⟨rfl, c', e, rfl⟩ := y
    exact hs i _ _ _ e p.x0 (p.turn (Nat.lt_of_lt_of_le c hz))
  · obtain rfl : i = z.cps.size := Nat.le_antisymm hi c
    exact .inl ⟨Nat.le_refl _, hd _ p.made⟩
theorem all_true {bs : List Bool} (h : ∀ b ∈ bs, b = true) : bs.all id = true := List.all_eq_true.mpr h
theorem dps_bl {K : PySem.W.Frag} {H : Hp} : ∀ {acc : List V} {n : Nat}, DpAll K H acc (List.replicate n (PyData.bool true)) → acc = (List.replicate n true).map V.bl
  | _, 0, .nil => rfl
  | _, n + 1, .cons (.bl _) q => by
    rw [dps_bl q]
    rfl
theorem fm_rep {α : Type} (c : α) (n : Nat) : (List.range n).filterMap (fun _ => some c) = List.replicate n c := by
  induction n with
  | zero => rfl
  | succ n ih =>
    rw [filterMap_succ, ih, List.replicate_succ']
    rfl
theorem os_none : ∀ {os : List (Option Int)}, none ∈ os → osum os = none
  | [], h => absurd h (by simp)
  | none :: os, _ => by rw [osum_cons]; rfl
  | some i :: os, h => by
    rw [osum_cons, os_none (os := os) (by simpa using h)]
    rfl
theorem os_some : ∀ {os : List (Option Int)}, ¬ none ∈ os → ∃ ns : List Int, os.map oV = ns.map V.int ∧ osum os = some ns.sum
  | [], _ => ⟨[], rfl, rfl⟩
  | none :: os, h => absurd List.mem_cons_self h
  | some i :: os, h => by
    obtain ⟨ns, a, b⟩ := os_some (os := os) fun z => h (List.mem_cons_of_mem _ z)
    refine ⟨i :: ns, by rw [List.map_cons, List.map_cons, a]; rfl, ?_⟩
    rw [osum_cons, b, List.sum_cons]
    rfl
section
variable {P : Program} {w : World} {K : PySem.W.Frag} {mg : PySem.Str → Option Value} {base : Heap}
theorem sc_sum_or_none : FnScope ["numbers"] ["numbers"] (defScope s_sum_or_none) := ⟨rfl, rfl, rfl, by decide +kernel, rfl, by decide +kernel, by decide +kernel⟩
theorem c_sum_or_none (T : Txt K mg) : C8.Cal P w K mg base 1 "sum_or_none" (spSumN K) [] := by
  obtain ⟨fd, F⟩ := T.f_sum_or_none
  refine calN F T.g_sum_or_none sc_sum_or_none (F.bindsN fun _ _ _ _ _ _ us hl => match us, hl with | [_], _ => rfl) len1 (fun cdv A outer s H vs Q E hr h => ?_)
  refine ⟨_, (pss_one (ps_ret (pe_ifExp (pt_cmpR op_in_seq pe_non (pv 0) (by rfl)) pe_non (pe_callB (cr_sum rfl) (by rfl) T.b_sum (by decide +kernel) (pa_cons (pe_callTy call_list_of (by rfl) T.b_list (by decide +kernel) (pa_cons (pv 0) pa_nil)) pa_nil))))), ?_⟩
  -- slots: 0:numbers
  obtain ⟨x, rfl, a, os, rfl, ha, q⟩ := h
  refine ⟨_, rfl, a, _, rfl, .inl ha, rfl, flat_os _, _, rfl, ?_⟩
  show if inV V.non (os.map oV) = true then _ else _
  rw [inV_os]
  by_cases hn : none ∈ os
  · rw [decide_eq_true hn]
    have z := q H Ext.rfl'
    rw [os_none hn] at z
    exact iteT z
  · rw [decide_eq_false hn]
    obtain ⟨ns, e1, e2⟩ := os_some hn
    refine iteF ⟨_, rfl, a, _, rfl, .inl ha, fun l hl => ⟨l, ns, rfl, .of (by rw [upd_same, e1]), ?_⟩⟩
    have z := q (upd H l (.lst (os.map oV))) (Ext.upd hl)
    rw [e2] at z
    exact z
theorem sc_good_name : FnScope ["name", "letter"] ["name"] (defScope s_good_name) := ⟨rfl, rfl, rfl, by decide +kernel, rfl, by decide +kernel, by decide +kernel⟩
theorem c_good_name (T : Txt K mg) : C8.Cal P w K mg base 1 "good_name" (spGoodName) [] := by
  obtain ⟨fd, F⟩ := T.f_good_name
  refine calN F T.g_good_name sc_good_name (F.bindsN fun _ _ _ _ _ _ us hl => match us, hl with | [_], _ => rfl) len1 (fun cdv A outer s H vs Q E hr h => ?_)
  refine ⟨_, (pss_one (ps_ret (pe_and (pe_chain op_le op_le pe_int (pe_callB call_len (by rfl) T.b_len (by decide +kernel) (pa_cons (pv 0) pa_nil)) (C8.pe_gc rfl T.i_MOST_LETTERS)) (pe_one (pe_callB (cr_all rfl) (by rfl) T.b_all (by decide +kernel) (pa_cons (pe_lc (own := [("letter", 1)]) (g := gName 1) (tt := tYes) rfl sc_good_name.nd (pi_str (pv 0)) (blkOk_by (own := [("letter", 1)]) (N := ["name", "letter"]) (sc := defScope s_good_name) (by decide +kernel)) (fun _ _ _ _ _ => pg_name (i := 1) sc_good_name.nd rfl (by first | exact Or.inl rfl | exact Or.inr rfl)) (fun _ _ _ _ _ => pts_nil) (fun _ _ _ _ _ => (pe_cmpR op_in_sign (pv 1) (C8.pe_gc rfl T.s_LETTERS) (by rfl)))) pa_nil)))))), ?_⟩
  -- slots: 0:name 1:letter
  obtain ⟨x, rfl, n, rfl, gn, q⟩ := h
  have lin : 2000 < sizeLine := by rw [sizeLine_eq]; omega
  have l8 := gn.l8
  have l1 := gn.l1
  have e8 : n.length = n.cps.size := rfl
  refine ⟨_, rfl, _, n.length, rfl, ⟨by omega, rfl⟩, 1, (n.length : Nat), rfl, rfl, true, congrArg V.bl (decide_eq_true (by omega)), iteT ⟨_, 8, rfl, rfl, true, congrArg V.bl (decide_eq_true (by omega)), iteT ?_⟩⟩
  refine ⟨_, rfl, _, rfl, fun D hD => ?_⟩
  refine lcD_str (K := K) (fun _ => some (.bool true)) hD (by omega) ?_ ?_
  · intro i c H' Nx hi x1 tn
    refine ⟨rfl, _, rfl, c, letters, rfl, rfl, ?_⟩
    rw [decide_eq_true (gn.le c ?_)]
    · exact tn.keep0 rfl (.bl _)
    · rw [← Array.getElem?_toList] at hi
      exact List.mem_of_getElem? hi
  · rintro H' ⟨acc, x1, hacc, dp⟩
    rw [fm_rep] at dp
    obtain rfl := dps_bl dp
    refine ⟨D, _, rfl, .of hacc, ?_⟩
    rw [all_true (fun b hb => (List.mem_replicate.mp hb).2)]
    exact q _ (x1.trans off_le)
theorem sc_uses_of : FnScope ["web", "places", "wrong", "place"] ["web", "places"] (defScope s_uses_of) := ⟨rfl, rfl, rfl, by decide +kernel, rfl, by decide +kernel, by decide +kernel⟩
theorem c_uses_of (T : Txt K mg) : C8.Cal P w K mg base 5 "uses_of" (spUsesOf K) [] := by
  obtain ⟨fd, F⟩ := T.f_uses_of
  refine calN F T.g_uses_of sc_uses_of (F.bindsN fun _ _ _ _ _ _ us hl => match us, hl with | [_, _], _ => rfl) len2 (fun cdv A outer s H vs Q E hr h => ?_)
  refine ⟨_, (pss_cons (ps_setLc (i := 2) (own := [("place", 3)]) (g := gName 3) (tt := _) rfl sc_uses_of.nd rfl rfl (sw_true rfl rfl rfl (by decide +kernel)) (pi_any (own_it T) (hr.mono (by decide)) (pv 1)) (blkOk_by (own := [("place", 3)]) (N := ["web", "places", "wrong", "place"]) (sc := defScope s_uses_of) (by decide +kernel)) (fun _ _ _ _ _ => pg_name (i := 3) sc_uses_of.nd rfl (by first | exact Or.inl rfl | exact Or.inr rfl)) (fun _ _ _ _ _ => pts_one (pt_not (pt_chain op_le op_lt pe_int (pv 3) (pe_fldK K rfl (pv 0) rfl)))) (fun _ _ _ _ _ => (pe_callTy call_int1 (by rfl) T.b_int (by decide +kernel) (pa_cons (pv 3) pa_nil))))
      (pss_cons (ps_if (pt_truth (pv 2) (by intro _; rfl)) (pss_one ps_never)
      pss_nil)
      (pss_one (ps_ret (C8.pe_mk (mk_Lot T) hr (by decide) rfl (pa_cons (pe_lst (pa_starA (own_it T) (own_len T) (hr.mono (by decide)) (pv 1) pa_nil)) pa_nil)))))), ?_⟩
  -- slots: 0:web 1:places 2:wrong 3:place
  obtain ⟨x, y, rfl, W, a, ns, hw, rfl, ⟨J, hwk⟩, ip, ln, q⟩ := h
  obtain ⟨p, dx, te, tx, rfl, hp, _⟩ := id hw
  have lin : 2000 < sizeLine := by rw [sizeLine_eq]; omega
  refine ⟨_, rfl, a, _, J, rfl, hwk, fun D hD => ?_⟩
  refine lcD_any hwk (fun _ => none) hD (by rw [List.length_map]; omega) ?_ ?_
  · intro i x H' Nx hi x1 tn
    rw [List.getElem?_map] at hi
    cases e : ns[i]? with
    | none => rw [e] at hi; cases hi
    | some k =>
      rw [e] at hi
      cases hi
      obtain ⟨k0, k1⟩ := ip k (List.mem_of_getElem? e)
      refine ⟨rfl, _, rfl, 0, k, rfl, rfl, true, congrArg V.bl (decide_eq_true k0), iteT ⟨_, rfl, p, _, dx, _, _, rfl, off_le _ _ (x1 _ _ hp), T.c_Web, T.n_Web_places, rfl, k, W.n, rfl, rfl, true, congrArg V.bl (decide_eq_true k1), ?_⟩⟩
      exact iteF (tn.drop0 rfl)
  · rintro H' ⟨acc, x1, hacc, dp⟩
    have e0 : ∀ n, (List.range n).filterMap (fun _ => (none : Option PyData)) = [] := fun n => by
      rw [List.filterMap_eq_nil_iff]
      intro _ _
      rfl
    rw [e0] at dp
    obtain rfl : acc = [] := by cases dp; rfl
    have xx := x1.trans off_le
    refine ⟨_, rfl, false, .inl ⟨_, .of hacc, rfl⟩, iteF ?_⟩
    have fin : ∀ H2, Ext H H2 → ∀ p1, H2 p1 = none → ∀ (x dx : Addr), upd H2 p1 (.lst (ns.map V.int)) x = none → upd H2 p1 (.lst (ns.map V.int)) dx = none → dx ≠ x → 
        spLotI K [.ref x, .ref p1] (upd (upd (upd H2 p1 (.lst (ns.map V.int))) dx (.own x)) x (.ins (cLot K) dx [])) (fun v H2 => v = .non ∧ Q (.ref x) H2) E0 := by
      intro H2 x2 p1 hp1 x dx hx hdx ne
      refine lot_mk' hx hdx ne ⟨_, .l (.of upd_same)⟩ (fun k hk => (ip k hk).1) ln fun ms H3 x3 lot mem => ⟨rfl, ?_⟩
      exact q _ ms H3 (x2.trans ((Ext.upd hp1).trans x3)) lot mem
    have hwk2 := wk_ext hwk xx
    cases hwk2 with
    | l h => exact ⟨_, rfl, a, _, rfl, .inl ⟨.inr h, by simp; omega, fun p1 hp1 => by rw [List.append_nil]; exact fin _ xx p1 hp1⟩⟩
    | t h => exact ⟨_, rfl, a, _, rfl, .inl ⟨.inl h, by simp; omega, fun p1 hp1 => by rw [List.append_nil]; exact fin _ xx p1 hp1⟩⟩
    | o h1 h2 h3 => exact ⟨_, rfl, a, _, rfl, .inr ⟨_, _, _, h1, h2, h3, fun S hS => ⟨by simp; omega, fun p1 hp1 => by rw [List.append_nil]; exact fin _ (xx.trans (Ext.upd hS)) p1 hp1⟩⟩⟩
end
end Sv
namespace Sv
open PySem PySem.Spec PyProof.Rows L2
/-! ### a task is made -/
theorem lot_but {K : PySem.W.Frag} {H H' : Hp} {p C dx : Addr} {fs : List (PySem.Str × V)} {x : V} {ns : List Int} (B : But p H H') (hp : H p = some (.ins C dx fs)) (nf : ∀ t, fs ≠ ([("places", V.ref t)] : List (PySem.Str × V))) (h : IsLot K H x ns) : IsLot K H' x ns := by
  obtain ⟨q, dx', t, rfl, a, b, c⟩ := h
  have ne : q ≠ p := fun z => by
    rw [z, hp] at a
    cases a
    exact nf _ rfl
  exact ⟨q, dx', t, rfl, B _ _ ne a, SqT.bi B hp b, c⟩
theorem itb_but {K : PySem.W.Frag} {H H' : Hp} {p C dx a : Addr} {ns : List Int} (B : But p H H') (hp : H p = some (.ins C dx [])) (h : Itb K H a ns) : Itb K H' a ns := by
  obtain ⟨J, w⟩ := h
  cases w with
  | l h => exact ⟨_, .l (SqL.bi B hp h)⟩
  | t h => exact ⟨_, .t (SqT.bi B hp h)⟩
  | o h1 h2 h3 =>
    refine ⟨_, .o (B _ _ (fun z => ?_) h1) h2 (SqT.bi B hp h3)⟩
    rw [z, hp] at h1
    cases h1
    cases h2
def spTaskI (K : PySem.W.Frag) : Sp := sp4 fun x y z u H Q => ∃ p dx W a ss sv bk, x = .ref p ∧ H p = some (.ins (cTask K) dx []) ∧ W.Ok ∧ IsW K H y W ∧ z = .ref a ∧ SeatsIn K H a ss ∧ SsOk W.n ss ∧ IsPr K H u W sv bk ∧
  ∀ ts H', But p H H' → IsTask K H' (.ref p) W ts sv bk → SEq ts ss → SsOk W.n ts → Q .non H'
/-- a comprehension over the keys of a frozen dict -/
theorem lc_keysK {g : TG} {tt : TT} {te : TE} {vs : List Nat} {σ : L2.St} {H1 : Hp} {D : Addr} {Qd : Hp → Prop} {d : Addr} {o : Obj} {ks : List Key} {F : Key → V} (Pv : Nat → Hp → Prop) (h0 : Pv 0 (upd H1 D (.lst []))) (hl : ∀ i H', Pv i H' → H' d = some (.frz o (.dK (dG ks F))))
    (hs : ∀ i k H, ks[i]? = some k → Pv i H → g (kV k) (wipe σ vs) H fun σ2 H2 => wipe σ2 vs = wipe σ vs ∧ tt σ2 H2 fun b H3 =>
      if b = true then te σ2 H3 fun y H4 => ∃ acc, H4 D = some (.lst acc) ∧ acc.length < sizeLine ∧ Pv (i + 1) (upd H4 D (.lst (acc ++ [y]))) else Pv (i + 1) H3) (hd : ∀ H, Pv ks.length H → Qd H) :
    ∃ W : Nat → Nat → Hp → Prop, (∃ m, W 0 m (upd H1 D (.lst []))) ∧ ∀ i m H, W i m H →
      ((Itk d o (dG ks F)).stop i H ∧ Qd H) ∨ ((Itk d o (dG ks F)).go i H ∧ ∃ Nx : Hp → Prop, (∀ H', Nx H' → ∃ m', m' < m ∧ W (i + 1) m' H') ∧ ∀ x H', (Itk d o (dG ks F)).yld i H x H' → g x (wipe σ vs) H' fun σ2 H2 => wipe σ2 vs = wipe σ vs ∧ tt σ2 H2 fun b H3 =>
        if b = true then te σ2 H3 fun y H4 => ∃ acc, H4 D = some (.lst acc) ∧ acc.length < sizeLine ∧ Nx (upd H4 D (.lst (acc ++ [y]))) else Nx H3) := by
  refine ⟨fun i m H => m = ks.length - i ∧ i ≤ ks.length ∧ Pv i H, ⟨ks.length, rfl, Nat.zero_le _, h0⟩, ?_⟩
  rintro i m H2 ⟨rfl, hi, p⟩
  have w1 := hl _ _ p
  have ll : (dG ks F).length = ks.length := by rw [dg_len]
  rcases Nat.lt_or_ge i ks.length with c | c
  · have hx : ks[i]? = some ks[i] := List.getElem?_eq_getElem c
    refine .inr ⟨⟨w1, by rw [ll]; exact c⟩, Pv (i + 1), fun H' p' => ⟨ks.length - (i + 1), by omega, rfl, c, p'⟩, fun x H' y => ?_⟩
    obtain ⟨rfl, k, v, e1, rfl⟩ := y
    unfold dG at e1
    rw [List.getElem?_map, hx] at e1
    cases e1
    exact hs i _ _ hx p
  · obtain rfl : i = ks.length := Nat.le_antisymm hi c
    exact .inl ⟨⟨w1, by rw [ll]; exact c⟩, hd _ p⟩
theorem asc_len {n : Int} (n24 : n ≤ 24) {l : List Int} (h : Asc l) (ir : ∀ k ∈ l, InR n k) : l.length < 60 := by
  have := nodup_le l (below n) (asc_nodup h) fun k hk => mem_below.mpr (ir k hk)
  rw [below_len] at this
  omega
theorem fst_inj {β : Type} : ∀ {ss : List (PySem.Str × β)}, (ss.map Prod.fst).Nodup → ∀ {s t : PySem.Str × β}, s ∈ ss → t ∈ ss → s.1 = t.1 → s = t
  | [], _, _, _, h, _, _ => absurd h (by simp)
  | x :: ss, nd, s, t, hs, ht, e => by
    rw [List.map_cons, List.nodup_cons] at nd
    rcases List.mem_cons.mp hs with h1 | h1 <;> rcases List.mem_cons.mp ht with h2 | h2
    · rw [h1, h2]
    · exact absurd (List.mem_map.mpr ⟨t, h2, e.symm.trans (by rw [h1])⟩) nd.1
    · exact absurd (List.mem_map.mpr ⟨s, h1, e.trans (by rw [h2])⟩) nd.1
    · exact fst_inj nd.2 h1 h2 e
theorem sk_snoc (ss : SL) (s : PySem.Str × List Int) : sk (ss ++ [s]) = sk ss ++ [Sum.inr s.1] := by
  unfold sk
  rw [List.map_append]
  rfl
section
variable {P : Program} {w : World} {K : PySem.W.Frag} {mg : PySem.Str → Option Value} {base : Heap}
theorem sc_Task_init : FnScope ["self", "web", "seats", "prices", "names", "name"] ["self", "web", "seats", "prices"] (defScope s_Task_init) := ⟨rfl, rfl, rfl, by decide +kernel, rfl, by decide +kernel, by decide +kernel⟩
theorem mk_Task (T : Txt K mg) : C8.Mak P w K mg base 6 "Task" (He.ga K "Task") (spTaskI K) [] := by
  obtain ⟨fd, F⟩ := T.f_Task_init
  refine makN T.k_Task T.g_Task F sc_Task_init (F.bindsN fun _ _ _ _ _ _ us hl => match us, hl with | [_, _, _, _], _ => rfl) len4 (fun cdv A outer s H vs Q E hr h => ?_)
  refine ⟨_, (pss_cons (ps_if (pt_not (pt_cmpR (op_eqG (rc_web T) (hr.mono (by decide))) (pe_fld (pv 3) rfl) (pv 1) (nomark _))) (pss_one ps_never)
      pss_nil)
      (pss_cons (ps_if (pt_not (pt_chain op_le op_le pe_int (pe_callB call_lenD (by rfl) T.b_len (by decide +kernel) (pa_cons (pv 2) pa_nil)) (C8.pe_gc rfl T.i_MOST_SEATS))) (pss_one ps_never)
      pss_nil)
      (pss_cons (ps_set (i := 4) sc_Task_init.nd rfl (by first | exact Or.inl rfl | exact Or.inr rfl) (pe_callB cr_sortedS (by rfl) T.b_sorted (by decide +kernel) (pa_cons (pe_lock (pe_lc (own := [("name", 5)]) (g := gName 5) (tt := tYes) rfl sc_Task_init.nd (pi_keys (pv 2)) (blkOk_by (own := [("name", 5)]) (N := ["self", "web", "seats", "prices", "names", "name"]) (sc := defScope s_Task_init) (by decide +kernel)) (fun _ _ _ _ _ => pg_name (i := 5) sc_Task_init.nd rfl (by first | exact Or.inl rfl | exact Or.inr rfl)) (fun _ _ _ _ _ => pts_nil) (fun _ _ _ _ _ => (pe_callTy SkE.call_str_str (by rfl) T.b_str (by decide +kernel) (pa_cons (pv 5) pa_nil))))) pa_nil)))
      (pss_cons (ps_for PassesOwn.never rfl (pi_list (pv 4)) (pg_name (i := 5) sc_Task_init.nd rfl (by first | exact Or.inl rfl | exact Or.inr rfl))
      (pss_one (ps_if (pt_not (pt_val (C8.pe_c (c_good_name T) hr (by decide) rfl (pa_cons (pv 5) pa_nil)))) (pss_one ps_never)
      pss_nil)))
      (pss_cons (ps_fld (pv 0) (pv 1) rfl)
      (pss_cons (ps_fld (pv 0) (pe_dc (own := [("name", 5)]) (g := gName 5) (tt := tYes) rfl sc_Task_init.nd (pi_list (pv 4)) (blkOk_by (own := [("name", 5)]) (N := ["self", "web", "seats", "prices", "names", "name"]) (sc := defScope s_Task_init) (by decide +kernel)) (fun _ _ _ _ _ => pg_name (i := 5) sc_Task_init.nd rfl (by first | exact Or.inl rfl | exact Or.inr rfl)) (fun _ _ _ _ _ => pts_nil) (fun _ _ _ _ _ => (pv 5)) (fun _ _ _ _ _ => (C8.pe_c (c_uses_of T) hr (by decide) rfl (pa_cons (pv 1) (pa_cons (pe_dget (hu_of hr) (pv 2) (pv 5) (fun _ _ => rfl)) pa_nil))))) rfl)
      (pss_one (ps_fld (pv 0) (pv 3) rfl)))))))), ?_⟩
  -- slots: 0:self 1:web 2:seats 3:prices 4:names 5:name
  obtain ⟨x, y, z, u, rfl, p, dx, W, a, ss, sv, bk, rfl, hp, wok, hw, rfl, hss, sok, hpr, q⟩ := h
  obtain ⟨pp, dp, wp, tsp, tbp, rfl, hpp, hwp, _⟩ := id hpr
  obtain ⟨F, hda, hF⟩ := hss
  have lin : 2000 < sizeLine := by rw [sizeLine_eq]; omega
  have l1 := sok.l1
  have l4 := sok.l4
  have lsk : (sk ss).length = ss.length := List.length_map _
  refine ⟨_, rfl, pp, _, dp, _, _, rfl, hpp, T.c_Prices, T.n_Prices_web, rfl, _, rfl, web_eq hwp hw, fun H1 x1 => ⟨true, rfl, iteF ?_⟩⟩
  refine ⟨_, rfl, a, _, rfl, x1 _ _ hda, 1, ((dG (sk ss) F).length : Nat), rfl, rfl, true, congrArg V.bl (decide_eq_true (by rw [dg_len]; omega)), iteT ⟨_, 4, rfl, rfl, true, congrArg V.bl (decide_eq_true (by rw [dg_len]; omega)), iteF ?_⟩⟩
  refine ⟨a, _, x1 _ _ hda, True.intro, fun od => ?_⟩
  have hd0 : upd H1 a (.frz od (.dK (dG (sk ss) F))) a = some (.frz od (.dK (dG (sk ss) F))) := upd_same
  have uex : ∀ H', Ext (upd H1 a (.frz od (.dK (dG (sk ss) F)))) H' → Ext H1 (upd H' a (.dK (dG (sk ss) F))) := fun H' x => unlock_ext (x1 _ _ hda) x
  generalize upd H1 a (.frz od (.dK (dG (sk ss) F))) = H0 at hd0 uex ⊢
  refine ⟨_, rfl, a, od, rfl, .inl ⟨_, hd0, fun D hD => ?_⟩⟩
  have nD : D ≠ a := (ne_of_none hd0 hD).symm
  refine lc_keysK (fun i H' => H' = upd H0 D (.lst (((ss.map Prod.fst).take i).map V.str))) rfl (fun i H' z => by subst z; rw [upd_ne nD.symm]; exact hd0) ?_ ?_
  · rintro i k H' hi rfl
    unfold sk at hi
    rw [List.getElem?_map] at hi
    obtain ⟨s, hs, rfl⟩ := Option.map_eq_some_iff.mp hi
    have il := (List.getElem?_eq_some_iff.mp hs).1
    refine ⟨rfl, _, rfl, s.1, rfl, _, upd_same, ?_, ?_⟩
    · rw [List.length_map, List.length_take]
      omega
    · rw [upd_upd, List.take_add_one, List.getElem?_map, hs, List.map_append]
      rfl
  · rintro H' rfl
    refine ⟨by rw [upd_ne nD.symm]; exact hd0, ?_⟩
    have e0 : (ss.map Prod.fst).take (sk ss).length = ss.map Prod.fst := by
      rw [lsk, ← List.length_map (f := Prod.fst) (as := ss), List.take_length]
    rw [e0]
    have x2 := uex _ (Ext.upd hD (o := .lst ((ss.map Prod.fst).map V.str)))
    have hDD : upd (upd H0 D (.lst ((ss.map Prod.fst).map V.str))) a (.dK (dG (sk ss) F)) D = some (.lst ((ss.map Prod.fst).map V.str)) := by rw [upd_ne nD, upd_same]
    generalize upd (upd H0 D (.lst ((ss.map Prod.fst).map V.str))) a (.dK (dG (sk ss) F)) = H2 at x2 hDD ⊢
    refine ⟨D, _, rfl, .of hDD, by rw [List.length_map]; omega, fun ys p1 perm _ hp1 => ?_⟩
    have hL : SqL K (upd H2 p1 (.lst (ys.map V.str))) p1 (ys.map V.str) := .of upd_same
    have x3 := x1.trans (x2.trans (Ext.upd hp1 (o := .lst (ys.map V.str))))
    have ynd : ys.Nodup := perm.nodup_iff.mpr sok.nd
    have yln : ys.length = ss.length := by rw [perm.length_eq, List.length_map]
    generalize upd H2 p1 (.lst (ys.map V.str)) = H3 at hL x3 ⊢
    refine ⟨_, rfl, p1, rfl, ⟨_, hL⟩, for_any (.l (C := cLot K) (f := "places") hL) (fun i σ H' => Ext H3 H' ∧ ∃ v, σ = [some (.ref p), some y, some (.ref a), some (.ref pp), some (.ref p1), v]) ⟨Ext.rfl', none, rfl⟩ (fun i σ H' e => e.1) ?_ ?_⟩
    · rintro i x σ H' hi ⟨x4, v, rfl⟩
      rw [List.getElem?_map] at hi
      obtain ⟨n, hn, rfl⟩ := Option.map_eq_some_iff.mp hi
      have hm : n ∈ ss.map Prod.fst := perm.mem_iff.mp (List.mem_of_getElem? hn)
      obtain ⟨s, hs, rfl⟩ := List.mem_map.mp hm
      exact ⟨_, rfl, _, rfl, s.1, rfl, sok.gn s hs, fun H'' x5 => ⟨true, rfl, iteF ⟨x4.trans x5, _, rfl⟩⟩⟩
    · rintro σ H4 ⟨x4, v, rfl⟩
      have x04 := x3.trans x4
      refine ⟨_, rfl, _, rfl, p, _, dx, _, rfl, x04 _ _ hp, T.c_Task, T.n_Task_web, (by show 0 < 1000; decide), ?_⟩
      have B5 : But p H (upd H4 p (.ins (cTask K) dx (putF "web" y []))) := (But.of x04).trans .put
      have hp5 : upd H4 p (.ins (cTask K) dx (putF "web" y [])) p = some (.ins (cTask K) dx [("web", y)]) := upd_same
      have hL5 : SqL K (upd H4 p (.ins (cTask K) dx (putF "web" y []))) p1 (ys.map V.str) := SqL.bi .put (x04 _ _ hp) (hL.ext x4)
      generalize upd H4 p (.ins (cTask K) dx (putF "web" y [])) = H5 at B5 hp5 hL5 ⊢
      have hw5 := web_but B5 hp hw
      have hda5 : H5 a = some (.dK (dG (sk ss) F)) := B5 _ _ (ne_of hda hp (by intro z; cases z)) hda
      refine ⟨_, rfl, p1, rfl, ⟨_, hL5⟩, fun D2 hD2 => dc_any (.l (C := cLot K) (f := "places") hL5) hD2 (fun i H' => ∃ (ts : SL) (F' : Key → V), ts.map Prod.fst = ys.take i ∧ H' D2 = some (.dK (dG (sk ts) F')) ∧ Ext H5 H' ∧
        ∀ s ∈ ts, IsLot K H' (F' (Sum.inr s.1)) s.2 ∧ ∀ t ∈ ss, t.1 = s.1 → ∀ k, k ∈ s.2 ↔ k ∈ t.2) ⟨[], fun _ => .non, rfl, upd_same, Ext.upd hD2, by simp⟩ (fun i H' e => e.elim fun _ e => e.elim fun _ e => e.2.2.1) ?_ ?_⟩
      · rintro i x H' hi ⟨ts, F', e1, hk, x5, al⟩
        rw [List.getElem?_map] at hi
        obtain ⟨n, hn, rfl⟩ := Option.map_eq_some_iff.mp hi
        have hm : n ∈ ss.map Prod.fst := perm.mem_iff.mp (List.mem_of_getElem? hn)
        obtain ⟨s, hs, rfl⟩ := List.mem_map.mp hm
        obtain ⟨a', ea, ita⟩ := hF s hs
        have un : ∀ t ∈ ss, t.1 = s.1 → t = s := fun t ht e => fst_inj sok.nd ht hs e
        refine ⟨rfl, _, rfl, _, rfl, _, rfl, _, rfl, a, _, rfl, .inl ⟨_, Sum.inr s.1, .inl (x5 _ _ hda5), rfl, by rw [dg_val, if_pos (mem_sk.mpr hm)]⟩, ?_⟩
        refine ⟨_, _, rfl, W, a', s.2, hw5.ext x5, ea, (itb_but B5 hp ita).ext x5, sok.ip s hs, sok.lu s hs, fun z ms H'' x6 lot mem => ?_⟩
        have lts : ts.length ≤ 4 := by
          have z := congrArg List.length e1
          rw [List.length_map, List.length_take] at z
          omega
        refine ⟨_, Sum.inr s.1, rfl, x6 _ _ hk, by rw [dg_len]; unfold sk; rw [List.length_map]; omega, ts ++ [(s.1, ms)], fun j => if j = Sum.inr s.1 then z else F' j, ?_, ?_, (x5.trans x6).put hD2, ?_⟩
        · rw [List.map_append, e1, List.take_add_one, hn]
          rfl
        · have nin : ¬ (Sum.inr s.1 : Key) ∈ sk ts := fun z => by
            rw [mem_sk, e1] at z
            exact nodup_take ynd hn z
          rw [upd_same, dg_new z nin, sk_snoc]
        · intro t ht
          rcases List.mem_append.mp ht with ht | ht
          · have nt : ¬ (Sum.inr t.1 : Key) = Sum.inr s.1 := fun z => by
              have z := Sum.inr.inj z
              have : s.1 ∈ ys.take i := by
                rw [← e1, ← z]
                exact List.mem_map.mpr ⟨t, ht, rfl⟩
              exact nodup_take ynd hn this
            simp only [if_neg nt]
            exact ⟨((al t ht).1.ext x6).im (Im.put (x6 _ _ hk) True.intro), (al t ht).2⟩
          · rw [List.mem_singleton.mp ht]
            simp only [if_pos]
            refine ⟨lot.im (Im.put (x6 _ _ hk) True.intro), fun t ht e k => ?_⟩
            rw [un t ht e]
            exact mem k
      · rintro H6 ⟨ts, F', e1, hk, x5, al⟩
        rw [List.length_map, List.take_length] at e1
        refine ⟨_, rfl, p, _, dx, _, rfl, x5 _ _ hp5, T.c_Task, T.n_Task_seats, (by show 1 < 1000; decide), ?_⟩
        refine ⟨_, rfl, _, rfl, p, _, dx, _, rfl, upd_same, T.c_Task, T.n_Task_prices, (by show 2 < 1000; decide), ?_⟩
        have B6 : But p H H6 := B5.trans (.of x5)
        have hp6 := x5 _ _ hp5
        refine q ts _ ((B6.trans .put).trans .put) ⟨p, dx, y, D2, .ref pp, rfl, upd_same, web_but ((B6.trans .put).trans .put) hp hw, ⟨F', ?_, fun s hs => ?_⟩, pr_but ((B6.trans .put).trans .put) hp hpr⟩ ?_ ?_
        · have nd2 : D2 ≠ p := ne_of hk hp6 (by intro z; cases z)
          rw [upd_ne nd2, upd_ne nd2]
          exact hk
        · exact lot_but .put upd_same (by intro _ z; cases z) (lot_but .put hp6 (by intro _ z; cases z) (al s hs).1)
        · refine ⟨by rw [e1]; exact ynd, sok.nd, fun n => by rw [e1]; exact perm.mem_iff, fun s hs t ht e => (al s hs).2 t ht e.symm, fun s hs => ?_⟩
          obtain ⟨_, _, _, _, _, _, asc⟩ := (al s hs).1
          exact asc
        · have gt : ∀ s ∈ ts, ∃ t ∈ ss, t.1 = s.1 := fun s hs => by
            have : s.1 ∈ ys := by
              rw [← e1]
              exact List.mem_map.mpr ⟨s, hs, rfl⟩
            obtain ⟨t, ht, e⟩ := List.mem_map.mp (perm.mem_iff.mp this)
            exact ⟨t, ht, e⟩
          have lts : ts.length = ss.length := by
            rw [← yln, ← e1, List.length_map]
          have ipt : ∀ s ∈ ts, ∀ k ∈ s.2, InR W.n k := fun s hs k hk => by
            obtain ⟨t, ht, e⟩ := gt s hs
            exact sok.ip t ht k (((al s hs).2 t ht e k).mp hk)
          refine ⟨by omega, by omega, by rw [e1]; exact ynd, fun s hs => ?_, ipt, fun s hs => ?_⟩
          · obtain ⟨t, ht, e⟩ := gt s hs
            rw [← e]
            exact sok.gn t ht
          · obtain ⟨_, _, _, _, _, _, asc⟩ := (al s hs).1
            exact asc_len wok.n1 asc (ipt s hs)
end
end Sv
namespace Sv
open PySem PySem.Spec PyProof.Rows L2
/-! ### uses, total, with_uses -/
def ndOf (W : WD) (S : List Int) (sv bk : List (Option Int)) : ND := ⟨W, S, sv, bk⟩
/-- a comprehension over the values of a frozen dict -/
theorem lc_valsK {g : TG} {tt : TT} {te : TE} {vs : List Nat} {σ : L2.St} {H1 : Hp} {D : Addr} {Qd : Hp → Prop} {d : Addr} {o : Obj} {ks : List Key} {F : Key → V} (Pv : Nat → Hp → Prop) (h0 : Pv 0 (upd H1 D (.lst []))) (hl : ∀ i H', Pv i H' → H' d = some (.frz o (.dK (dG ks F))))
    (hs : ∀ i k H, ks[i]? = some k → Pv i H → g (F k) (wipe σ vs) H fun σ2 H2 => wipe σ2 vs = wipe σ vs ∧ tt σ2 H2 fun b H3 =>
      if b = true then te σ2 H3 fun y H4 => ∃ acc, H4 D = some (.lst acc) ∧ acc.length < sizeLine ∧ Pv (i + 1) (upd H4 D (.lst (acc ++ [y]))) else Pv (i + 1) H3) (hd : ∀ H, Pv ks.length H → Qd H) :
    ∃ W : Nat → Nat → Hp → Prop, (∃ m, W 0 m (upd H1 D (.lst []))) ∧ ∀ i m H, W i m H →
      ((Itd d o (dG ks F)).stop i H ∧ Qd H) ∨ ((Itd d o (dG ks F)).go i H ∧ ∃ Nx : Hp → Prop, (∀ H', Nx H' → ∃ m', m' < m ∧ W (i + 1) m' H') ∧ ∀ x H', (Itd d o (dG ks F)).yld i H x H' → g x (wipe σ vs) H' fun σ2 H2 => wipe σ2 vs = wipe σ vs ∧ tt σ2 H2 fun b H3 =>
        if b = true then te σ2 H3 fun y H4 => ∃ acc, H4 D = some (.lst acc) ∧ acc.length < sizeLine ∧ Nx (upd H4 D (.lst (acc ++ [y]))) else Nx H3) := by
  refine ⟨fun i m H => m = ks.length - i ∧ i ≤ ks.length ∧ Pv i H, ⟨ks.length, rfl, Nat.zero_le _, h0⟩, ?_⟩
  rintro i m H2 ⟨rfl, hi, p⟩
  have w1 := hl _ _ p
  have ll : (dG ks F).length = ks.length := by rw [dg_len]
  rcases Nat.lt_or_ge i ks.length with c | c
  · have hx : ks[i]? = some ks[i] := List.getElem?_eq_getElem c
    refine .inr ⟨⟨w1, by rw [ll]; exact c⟩, Pv (i + 1), fun H' p' => ⟨ks.length - (i + 1), by omega, rfl, c, p'⟩, fun x H' y => ?_⟩
    obtain ⟨rfl, k, e1⟩ := y
    unfold dG at e1
    rw [List.getElem?_map, hx] at e1
    cases e1
    exact hs i _ _ hx p
  · obtain rfl : i = ks.length := Nat.le_antisymm hi c
    exact .inl ⟨⟨w1, by rw [ll]; exact c⟩, hd _ p⟩
/-- the sum of the seats' least costs -/
def TotC (W : WD) (ss : SL) (sv bk : List (Option Int)) (c : Option Int) : Prop := ∃ cs : List (Option Int), cs.length = ss.length ∧ (∀ (i : Nat) s o, ss[i]? = some s → cs[i]? = some o → LeastC (ndOf W s.2 sv bk) o) ∧ c = osum cs
structure PrOk (W : WD) (sv bk : List (Option Int)) : Prop where
  ls : sv.length = W.G.length
  lb : bk.length = W.G.length
  os : ∀ o ∈ sv, OkP o
  ob : ∀ o ∈ bk, OkP o
def spTotal (K : PySem.W.Frag) : Sp := sp1 fun x H Q => ∃ W ss sv bk, IsTask K H x W ss sv bk ∧ W.Ok ∧ PrOk W sv bk ∧ SsOk W.n ss ∧ (∀ s ∈ ss, Asc s.2) ∧ ∀ c H', Ext H H' → TotC W ss sv bk c → Q (oV c) H'
def spUses (K : PySem.W.Frag) : Sp := sp2 fun x y H Q => ∃ W ss sv bk s, IsTask K H x W ss sv bk ∧ s ∈ ss ∧ (ss.map Prod.fst).Nodup ∧ y = .str s.1 ∧ ∀ z, IsLot K H z s.2 → Q z H
section
variable {P : Program} {w : World} {K : PySem.W.Frag} {mg : PySem.Str → Option Value} {base : Heap}
theorem sc_Task_uses : FnScope ["self", "name"] ["self", "name"] (defScope s_Task_uses) := ⟨rfl, rfl, rfl, by decide +kernel, rfl, by decide +kernel, by decide +kernel⟩
theorem mt_Task_uses (T : Txt K mg) : C8.Met P w K mg base 1 (He.ga K "Task") "uses" (spUses K) [] := by
  obtain ⟨fd, F⟩ := T.f_Task_uses
  refine metN T.c_Task T.m_Task_uses F sc_Task_uses (F.bindsN fun _ _ _ _ _ _ us hl => match us, hl with | [_, _], _ => rfl) len2 (fun cdv A outer s H vs Q E hr h => ?_)
  refine ⟨_, (pss_cons (ps_if (pt_cmp (pc_dnotin (hu_of hr) (pv 1) (pe_fld (pv 0) rfl))) (pss_one ps_never)
      pss_nil)
      (pss_one (ps_ret (pe_dget (hu_of hr) (pe_fld (pv 0) rfl) (pv 1) (fun _ _ => rfl))))), ?_⟩
  -- slots: 0:self 1:name
  obtain ⟨x, y, rfl, W, ss, sv, bk, s, ⟨p, dx, w0, d, pr, rfl, hp, hw, ⟨F, hd, hF⟩, hpr⟩, hs, nd, rfl, q⟩ := h
  have hm : (Sum.inr s.1 : Key) ∈ sk ss := mem_sk.mpr (List.mem_map.mpr ⟨s, hs, rfl⟩)
  have get : DGet H d (V.str s.1) (some (F (Sum.inr s.1))) := .inl ⟨_, Sum.inr s.1, .inl hd, rfl, by rw [dg_val, if_pos hm]⟩
  refine ⟨_, rfl, _, rfl, p, _, dx, _, _, rfl, hp, T.c_Task, T.n_Task_seats, rfl, d, _, rfl, get, _, rfl, iteF ⟨_, rfl, p, _, dx, _, _, rfl, hp, T.c_Task, T.n_Task_seats, rfl, _, rfl, d, _, rfl, get, q _ (hF s hs)⟩⟩
theorem sc_Task_total : FnScope ["self", "uses"] ["self"] (defScope s_Task_total) := ⟨rfl, rfl, rfl, by decide +kernel, rfl, by decide +kernel, by decide +kernel⟩
theorem mt_Task_total (T : Txt K mg) : C8.Met P w K mg base 9 (He.ga K "Task") "total" (spTotal K) [] := by
  obtain ⟨fd, F⟩ := T.f_Task_total
  refine metN T.c_Task T.m_Task_total F sc_Task_total (F.bindsN fun _ _ _ _ _ _ us hl => match us, hl with | [_], _ => rfl) len1 (fun cdv A outer s H vs Q E hr h => ?_)
  refine ⟨_, (pss_one (ps_ret (C8.pe_c (c_sum_or_none T) hr (by decide) rfl (pa_cons (pe_lock (pe_lc (own := [("uses", 1)]) (g := gName 1) (tt := tYes) rfl sc_Task_total.nd (pi_values (pe_fld (pv 0) rfl)) (blkOk_by (own := [("uses", 1)]) (N := ["self", "uses"]) (sc := defScope s_Task_total) (by decide +kernel)) (fun _ _ _ _ _ => pg_name (i := 1) sc_Task_total.nd rfl (by first | exact Or.inl rfl | exact Or.inr rfl)) (fun _ _ _ _ _ => pts_nil) (fun _ _ _ _ _ => (pe_fldK K rfl (C8.pe_c (c_least T) hr (by decide) rfl (pa_cons (pe_fldK K rfl (pv 0) rfl) (pa_cons (pv 1) (pa_cons (pe_fldK K rfl (pv 0) rfl) pa_nil)))) rfl)))) pa_nil)))), ?_⟩
  -- slots: 0:self 1:uses
  obtain ⟨x, rfl, W, ss, sv, bk, ⟨p, dx, w0, d, pr, rfl, hp, hw, ⟨F, hd, hF⟩, hpr⟩, wok, pok, sok, asc, q⟩ := h
  have lin : 2000 < sizeLine := by rw [sizeLine_eq]; omega
  have l4 := sok.l4
  have lsk : (sk ss).length = ss.length := List.length_map _
  refine ⟨d, _, hd, True.intro, fun od => ?_⟩
  have c0 := Le.lock (o := od) hd True.intro (by intro _ _ _ z; cases z)
  have hd0 : upd H d (.frz od (.dK (dG (sk ss) F))) d = some (.frz od (.dK (dG (sk ss) F))) := upd_same
  have uex : ∀ H', Ext (upd H d (.frz od (.dK (dG (sk ss) F)))) H' → Ext H (upd H' d (.dK (dG (sk ss) F))) := fun H' x => unlock_ext hd x
  generalize upd H d (.frz od (.dK (dG (sk ss) F))) = H0 at hd0 c0 uex ⊢
  have hp0 := c0.ins _ _ _ _ hp
  refine ⟨_, rfl, p, _, dx, _, _, rfl, hp0, T.c_Task, T.n_Task_seats, rfl, d, od, _, rfl, hd0, fun D hD => ?_⟩
  have nD : D ≠ d := (ne_of_none hd0 hD).symm
  refine lc_valsK (fun i H' => Ext H0 H' ∧ ∃ cs : List (Option Int), H' D = some (.lst (cs.map oV)) ∧ cs.length = i ∧ ∀ (j : Nat) s o, ss[j]? = some s → cs[j]? = some o → LeastC (ndOf W s.2 sv bk) o) ⟨Ext.upd hD, [], upd_same, rfl, by simp⟩ (fun i H' z => z.1 _ _ hd0) ?_ ?_
  · rintro i k H' hi ⟨x1, cs, hcs, lcs, al⟩
    unfold sk at hi
    rw [List.getElem?_map] at hi
    obtain ⟨s, hs, rfl⟩ := Option.map_eq_some_iff.mp hi
    have il := (List.getElem?_eq_some_iff.mp hs).1
    have ms : s ∈ ss := List.mem_of_getElem? hs
    have i1 : Im H H' := c0.im.trans (.of x1)
    refine ⟨rfl, _, rfl, p, _, dx, _, _, rfl, x1 _ _ hp0, T.c_Task, T.n_Task_web, rfl, _, rfl, _, rfl, p, _, dx, _, _, rfl, x1 _ _ hp0, T.c_Task, T.n_Task_prices, rfl, ?_⟩
    refine ⟨_, _, _, rfl, ndOf W s.2 sv bk, ⟨wok, pok.ls, pok.lb, pok.os, pok.ob, sok.ip s ms, asc_nodup (asc s ms)⟩, IsWeb.im hw i1, (hF s ms).im i1, hpr.im i1, fun c r H'' x2 lc ⟨pl, dl, b, f, e, er, hpl⟩ => ?_⟩
    refine ⟨pl, _, dl, _, _, er, hpl, T.c_Least, T.n_Least_cost, rfl, _, x2 _ _ hcs, by rw [List.length_map]; omega, (x1.trans x2).put hD, cs ++ [c], ?_, by rw [List.length_append, List.length_singleton, lcs], fun j t o ht ho => ?_⟩
    · rw [upd_same, List.map_append]
      rfl
    · rcases Nat.lt_or_ge j cs.length with lt | ge
      · rw [List.getElem?_append_left lt] at ho
        exact al j t o ht ho
      · have hj := (List.getElem?_eq_some_iff.mp ho).1
        rw [List.length_append, List.length_singleton] at hj
        obtain rfl : j = cs.length := by omega
        rw [List.getElem?_append_right (Nat.le_refl _), Nat.sub_self] at ho
        cases ho
        rw [lcs, hs] at ht
        cases ht
        exact lc
  · rintro H' ⟨x1, cs, hcs, lcs, al⟩
    refine ⟨x1 _ _ hd0, ?_⟩
    have x2 := uex _ x1
    refine ⟨_, rfl, D, cs, rfl, .of (by rw [upd_ne nD]; exact hcs), fun H'' x3 => q _ _ (x2.trans x3) ⟨cs, by rw [lcs, lsk], al, rfl⟩⟩
/-- Task(..) is made -/
theorem task_mk {K : PySem.W.Frag} {H1 : Hp} {y u : V} {a : Addr} {W : WD} {ss : SL} {sv bk : List (Option Int)} {Q : VK} {E : XK} (wok : W.Ok) (hw : IsW K H1 y W) (hs : SeatsIn K H1 a ss) (sok : SsOk W.n ss) (hpr : IsPr K H1 u W sv bk)
    (k : ∀ x ts H', Ext H1 H' → IsTask K H' x W ts sv bk → SEq ts ss → SsOk W.n ts → Q x H') (x dx : Addr) (hx : H1 x = none) (hd : H1 dx = none) (ne : dx ≠ x) :
    spTaskI K [.ref x, y, .ref a, u] (upd (upd H1 dx (.own x)) x (.ins (cTask K) dx [])) (fun v H2 => v = .non ∧ Q (.ref x) H2) E := by
  refine ⟨_, _, _, _, rfl, x, dx, W, a, ss, sv, bk, rfl, upd_same, wok, hw.ext (mk_in hx hd ne), rfl, ?_, sok, hpr.ext (mk_in hx hd ne), fun ts H' B h s1 s2 => ⟨rfl, k _ ts H' (mk_ext hx hd ne B) h s1 s2⟩⟩
  obtain ⟨F, h1, h2⟩ := hs
  refine ⟨F, mk_in hx hd ne _ _ h1, fun s hs => ?_⟩
  obtain ⟨b, e, i⟩ := h2 s hs
  exact ⟨b, e, i.ext (mk_in hx hd ne)⟩
def setS (ss : SL) (n : PySem.Str) (l : List Int) : SL := ss.map fun s => if s.1 = n then (n, l) else s
def spWithU (K : PySem.W.Frag) : Sp := sp3 fun x y z H Q => ∃ W ss sv bk n l, IsTask K H x W ss sv bk ∧ W.Ok ∧ SsOk W.n ss ∧ y = .str n ∧ n ∈ ss.map Prod.fst ∧ IsLot K H z l ∧ (∀ k ∈ l, InR W.n k) ∧
  ∀ x' ts H', Ext H H' → IsTask K H' x' W ts sv bk → SEq ts (setS ss n l) → SsOk W.n ts → Q x' H'
theorem sk_set (ss : SL) (n : PySem.Str) (l : List Int) : sk (setS ss n l) = sk ss := by
  unfold sk setS
  rw [List.map_map]
  refine List.map_congr_left fun s _ => ?_
  show Sum.inr (if s.1 = n then (n, l) else s).1 = _
  by_cases h : s.1 = n
  · rw [if_pos h, h]
  · rw [if_neg h]
theorem fst_set (ss : SL) (n : PySem.Str) (l : List Int) : (setS ss n l).map Prod.fst = ss.map Prod.fst := by
  unfold setS
  rw [List.map_map]
  refine List.map_congr_left fun s _ => ?_
  show (if s.1 = n then (n, l) else s).1 = _
  by_cases h : s.1 = n
  · rw [if_pos h, h]
  · rw [if_neg h]
theorem mem_set {ss : SL} {n : PySem.Str} {l : List Int} {s : PySem.Str × List Int} (h : s ∈ setS ss n l) : (s = (n, l) ∧ n ∈ ss.map Prod.fst) ∨ (s ∈ ss ∧ s.1 ≠ n) := by
  unfold setS at h
  obtain ⟨t, ht, rfl⟩ := List.mem_map.mp h
  by_cases e : t.1 = n
  · rw [if_pos e]
    exact .inl ⟨rfl, List.mem_map.mpr ⟨t, ht, e⟩⟩
  · rw [if_neg e]
    exact .inr ⟨ht, e⟩
theorem SsOk.set {n : Int} {ss : SL} (h : SsOk n ss) {m : PySem.Str} {l : List Int} (ip : ∀ k ∈ l, InR n k) (lu : l.length < 60) : SsOk n (setS ss m l) := by
  have e : (setS ss m l).length = ss.length := List.length_map _
  refine ⟨by rw [e]; exact h.l1, by rw [e]; exact h.l4, by rw [fst_set]; exact h.nd, fun s hs => ?_, fun s hs => ?_, fun s hs => ?_⟩
  · rcases mem_set hs with ⟨rfl, hm⟩ | ⟨hs, _⟩
    · obtain ⟨t, ht, e⟩ := List.mem_map.mp hm
      rw [← e]
      exact h.gn t ht
    · exact h.gn s hs
  · rcases mem_set hs with ⟨rfl, hm⟩ | ⟨hs, _⟩
    · exact ip
    · exact h.ip s hs
  · rcases mem_set hs with ⟨rfl, hm⟩ | ⟨hs, _⟩
    · exact lu
    · exact h.lu s hs
theorem merge_dG {F : Key → V} : ∀ (l a : List Key), (a ++ l).Nodup → mergeK (dG a F) (dG l F) = dG (a ++ l) F
  | [], a, _ => by
    rw [List.append_nil]
    rfl
  | k :: l, a, h => by
    have nk : ¬ k ∈ a := fun z => by
      have := List.nodup_append.mp h
      exact this.2.2 k z k List.mem_cons_self rfl
    show mergeK (putK (dG a F) k (F k)) (dG l F) = _
    have e : putK (dG a F) k (F k) = dG (a ++ [k]) F := by
      rw [dg_new _ nk]
      exact dg_congr fun j _ => by
        by_cases z : j = k
        · rw [if_pos z, z]
        · rw [if_neg z]
    rw [e, merge_dG l (a ++ [k]) (by rw [List.append_assoc]; exact h), List.append_assoc]
    rfl
theorem sc_Task_with_uses : FnScope ["self", "name", "uses"] ["self", "name", "uses"] (defScope s_Task_with_uses) := ⟨rfl, rfl, rfl, by decide +kernel, rfl, by decide +kernel, by decide +kernel⟩
theorem mt_Task_with_uses (T : Txt K mg) : C8.Met P w K mg base 8 (He.ga K "Task") "with_uses" (spWithU K) [] := by
  obtain ⟨fd, F⟩ := T.f_Task_with_uses
  refine metN T.c_Task T.m_Task_with_uses F sc_Task_with_uses (F.bindsN fun _ _ _ _ _ _ us hl => match us, hl with | [_, _, _], _ => rfl) len3 (fun cdv A outer s H vs Q E hr h => ?_)
  refine ⟨_, (pss_one (ps_ret (C8.pe_mk (mk_Task T) hr (by decide) rfl (pa_cons (pe_fld (pv 0) rfl) (pa_cons (pe_spread (pe_fld (pv 0) rfl) (pv 1) (pv 2)) (pa_cons (pe_fld (pv 0) rfl) pa_nil)))))), ?_⟩
  -- slots: 0:self 1:name 2:uses
  obtain ⟨x, y, z, rfl, W, ss, sv, bk, n, l, ⟨p, dx, w0, d, pr, rfl, hp, hw, ⟨F, hd, hF⟩, hpr⟩, wok, sok, rfl, hn, lot, ip, q⟩ := h
  have lin : 2000 < sizeLine := by rw [sizeLine_eq]; omega
  have l4 := sok.l4
  refine ⟨_, rfl, p, _, dx, _, _, rfl, hp, T.c_Task, T.n_Task_web, rfl, ?_⟩
  intro p1 hp1
  have nsk : (sk ss).Nodup := by
    unfold sk
    have := sok.nd
    unfold List.Nodup at this ⊢
    rw [List.pairwise_map] at this ⊢
    exact this.imp fun h z => h (Sum.inr.inj z)
  have lsk : (sk ss).length = ss.length := List.length_map _
  have em : mergeK [] (dG (sk ss) F) = dG (sk ss) F := merge_dG (sk ss) [] nsk
  have x1 : Ext H (upd H p1 (.dK [])) := Ext.upd hp1
  have n1 : d ≠ p1 := ne_of_none hd hp1
  refine ⟨_, rfl, p, _, dx, _, _, rfl, x1 _ _ hp, T.c_Task, T.n_Task_seats, rfl, d, _, rfl, .inl (x1 _ _ hd), n1, upd_same, by rw [dg_len]; omega, fun q1 hq1 => ?_⟩
  rw [em] at hq1 ⊢
  rw [upd_upd] at hq1 ⊢
  have nq : q1 ≠ p1 := fun z => by
    rw [z, upd_same] at hq1
    cases hq1
  refine ⟨_, rfl, _, rfl, Sum.inr n, rfl, by rw [upd_ne nq.symm, upd_same], upd_same, ?_⟩
  have er : mergeK (dG (sk ss) F) (putK [] (Sum.inr n) z) = dG (sk ss) (fun j => if j = Sum.inr n then z else F j) := by
    show putK (dG (sk ss) F) (Sum.inr n) z = _
    exact dg_set z (mem_sk.mpr hn)
  rw [er]
  have x2 : Ext H (upd H p1 (.dK (dG (sk ss) F))) := Ext.upd hp1
  have x3 := x2.trans (Ext.upd hq1 (o := .dK []))
  have hq0 : H q1 = none := x2.non hq1
  have x4 : Ext H (upd (upd (upd (upd H p1 (.dK (dG (sk ss) F))) q1 (.dK [])) q1 (.dK (putK [] (Sum.inr n) z))) p1 (.dK (dG (sk ss) fun j => if j = Sum.inr n then z else F j))) := (x3.put hq0).put hp1
  have h4 : upd (upd (upd (upd H p1 (.dK (dG (sk ss) F))) q1 (.dK [])) q1 (.dK (putK [] (Sum.inr n) z))) p1 (.dK (dG (sk ss) fun j => if j = Sum.inr n then z else F j)) p1 = some (.dK (dG (sk ss) fun j => if j = Sum.inr n then z else F j)) := upd_same
  generalize upd (upd (upd (upd H p1 (.dK (dG (sk ss) F))) q1 (.dK [])) q1 (.dK (putK [] (Sum.inr n) z))) p1 (.dK (dG (sk ss) fun j => if j = Sum.inr n then z else F j)) = H4 at x4 h4 ⊢
  obtain ⟨_, _, _, _, _, _, asc⟩ := id lot
  refine ⟨_, rfl, p, _, dx, _, _, rfl, x4 _ _ hp, T.c_Task, T.n_Task_prices, rfl, ?_⟩
  refine task_mk (ss := setS ss n l) (sv := sv) (bk := bk) wok (hw.ext x4) ⟨_, by rw [sk_set]; exact h4, fun s hs => ?_⟩ (sok.set ip (asc_len wok.n1 asc ip)) (hpr.ext x4) fun x' ts H' x5 ht s1 s2 => q x' ts H' (x4.trans x5) ht s1 s2
  rcases mem_set hs with ⟨rfl, _⟩ | ⟨hs, ne⟩
  · simp only [if_pos]
    exact (lot.ext x4).itb
  · rw [if_neg (fun z => ne (Sum.inr.inj z))]
    exact ((hF s hs).ext x4).itb
end
end Sv
namespace Sv
open PySem PySem.Spec PyProof.Rows L2
/-! ### edits -/
theorem op_met {X : Cx} {op : Operator} {k : Nat} {C : Addr} {m : PySem.Str} {sp : Sp} (M : C8.Met X.prog X.w X.K X.mg X.base k C m sp []) (self : PySem.W.selfFirst X.K C = true) (e : PySem.dunder op.info.2 = m) (hr : Room k X.A) :
    OpR X (binaryOp op) (fun x y H Q => ∃ p q dx dy fs gs, x = .ref p ∧ y = .ref q ∧ H p = some (.ins C dx fs) ∧ H q = some (.ins C dy gs) ∧ sp [.ref p, .ref q] H Q E0) := by
  obtain ⟨f, fd, ps, us, c, me, F, b, n⟩ := M
  cases n
  subst e
  exact op_own self me.at_ me.fn F b hr
inductive Ed where
  | at (b : Bool) (n : PySem.Str) (k : Int)
  | price (g : Nat) (b : Bool) (o : Option Int)
  deriving DecidableEq
def uw (b : Bool) : PySem.Str := if b then "use" else "free"
def edL : Ed → List PyData
  | .at b n k => [.str (uw b), .str n, .int k]
  | .price g b o => [.str "price", .int (g : Nat), .str (wd b), oI o]
def edD (e : Ed) : PyData := .tuple (edL e)
structure OkE (W : WD) (ns : List PySem.Str) (e : Ed) : Prop where
  at_ : ∀ b n k, e = .at b n k → n ∈ ns ∧ InR W.n k
  pr : ∀ g b o, e = .price g b o → g < W.G.length ∧ OkP o
structure St where
  ss : SL
  sv : List (Option Int)
  bk : List (Option Int)
def putU (b : Bool) (k : Int) (l : List Int) : List Int := if b then l.filter (fun j => !decide (j = k)) ++ [k] else l.filter (fun j => !decide (j = k))
def stepE (e : Ed) (s : St) : St := match e with
  | .at b n k => ⟨s.ss.map fun t => if t.1 = n then (n, putU b k t.2) else t, s.sv, s.bk⟩
  | .price g b o => ⟨s.ss, if b then s.sv.set g o else s.sv, if b then s.bk else s.bk.set g o⟩
/-- x is a task that stands for s -/
structure IsT (K : PySem.W.Frag) (H : Hp) (x : V) (W : WD) (s : St) : Prop where
  ok : W.Ok
  pr : PrOk W s.sv s.bk
  tk : ∃ ts, IsTask K H x W ts s.sv s.bk ∧ SEq ts s.ss ∧ SsOk W.n ts
theorem IsT.ext {K : PySem.W.Frag} {H H' : Hp} {x : V} {W : WD} {s : St} (h : IsT K H x W s) (e : Ext H H') : IsT K H' x W s := ⟨h.ok, h.pr, h.tk.elim fun ts z => ⟨ts, z.1.ext e, z.2⟩⟩
theorem SEq.trans {a b c : SL} (h : SEq a b) (g : SEq b c) : SEq a c := by
  refine ⟨h.na, g.nb, fun n => (h.nm n).trans (g.nm n), fun s hs t ht e k => ?_, h.asc⟩
  obtain ⟨u, hu, eu⟩ := List.mem_map.mp ((h.nm s.1).mp (List.mem_map.mpr ⟨s, hs, rfl⟩))
  exact (h.mm s hs u hu eu.symm k).trans (g.mm u hu t ht (eu.trans e) k)
theorem mem_putU {b : Bool} {k j : Int} {l : List Int} : j ∈ putU b k l ↔ (j ∈ l ∧ j ≠ k) ∨ (b = true ∧ j = k) := by
  cases b <;> simp [putU]
def setU (b : Bool) (n : PySem.Str) (k : Int) (ss : SL) : SL := ss.map fun t => if t.1 = n then (n, putU b k t.2) else t
theorem fst_setU (b : Bool) (n : PySem.Str) (k : Int) (ss : SL) : (setU b n k ss).map Prod.fst = ss.map Prod.fst := by
  unfold setU
  rw [List.map_map]
  refine List.map_congr_left fun s _ => ?_
  show (if s.1 = n then (n, putU b k s.2) else s).1 = _
  by_cases h : s.1 = n
  · rw [if_pos h, h]
  · rw [if_neg h]
theorem seq_set {ts ss : SL} {b : Bool} {n : PySem.Str} {k : Int} {ks : List Int} {s' : PySem.Str × List Int} (h : SEq ts ss) (hs : s' ∈ ts) (hn : s'.1 = n) (m : ∀ j, j ∈ ks ↔ j ∈ putU b k s'.2) (asc : Asc ks) : SEq (setS ts n ks) (setU b n k ss) := by
  refine ⟨by rw [fst_set]; exact h.na, by rw [fst_setU]; exact h.nb, fun m => by rw [fst_set, fst_setU]; exact h.nm m, fun s hs2 t ht e j => ?_, fun s hs2 => ?_⟩
  · obtain ⟨t0, ht0, rfl⟩ := List.mem_map.mp ht
    by_cases c : t0.1 = n
    · rw [if_pos c] at e ⊢
      rcases mem_set hs2 with ⟨rfl, _⟩ | ⟨_, ne⟩
      · rw [m j, mem_putU, mem_putU, h.mm s' hs t0 ht0 (hn.trans c.symm) j]
      · exact absurd e ne
    · rw [if_neg c] at e ⊢
      rcases mem_set hs2 with ⟨rfl, _⟩ | ⟨hs3, _⟩
      · exact absurd e.symm c
      · exact h.mm s hs3 t0 ht0 e j
  · rcases mem_set hs2 with ⟨rfl, _⟩ | ⟨hs3, _⟩
    · exact asc
    · exact h.asc s hs3
def spEdited (K : PySem.W.Frag) : Sp := sp2 fun x y H Q => ∃ W s e, IsT K H x W s ∧ Dp K H y (edD e) ∧ OkE W (s.ss.map Prod.fst) e ∧ ∀ x' H', Ext H H' → IsT K H' x' W (stepE e s) → Q x' H'
theorem shp_str {x : PySem.Str} (k : Nat) (h : PyData.strOk x = true) : shp k (.str x) := ⟨by rw [PyData.canLay0]; exact h, by simp only [PyData.depth]; exact Nat.zero_le _⟩
theorem GoodN.strOk {n : PySem.Str} (h : GoodN n) : PyData.strOk n = true := by
  unfold PyData.strOk
  rw [← Array.all_toList, List.all_eq_true]
  intro c hc
  have lo : ∀ c ∈ letters.cps.toList, c < 1114112 := by decide +kernel
  exact decide_eq_true (lo c (h.le c hc))
theorem uw_ok (b : Bool) : PyData.strOk (uw b) = true := by cases b <;> decide +kernel
theorem wd_ok (b : Bool) : PyData.strOk (wd b) = true := by cases b <;> decide +kernel
theorem shpE (e : Ed) (h : ∀ b n k, e = .at b n k → PyData.strOk n = true) : shp 1 (edD e) := .tup fun d hd => by
  cases e with
  | «at» b n k =>
    simp only [edL, List.mem_cons, List.not_mem_nil, or_false] at hd
    rcases hd with rfl | rfl | rfl
    · exact shp_str _ (uw_ok b)
    · exact shp_str _ (h _ _ _ rfl)
    · exact .int _ _
  | price g b o =>
    simp only [edL, List.mem_cons, List.not_mem_nil, or_false] at hd
    rcases hd with rfl | rfl | rfl | rfl
    · exact shp_str _ (by decide +kernel)
    · exact .int _ _
    · exact shp_str _ (wd_ok b)
    · exact .o o _
theorem shS2 (w : PySem.Str) (n : Int) (h : PyData.strOk w = true) : shp 1 (.tuple [.str w, .int n]) := .tup fun c hc => by
  simp only [List.mem_cons, List.not_mem_nil, or_false] at hc
  rcases hc with rfl | rfl
  · exact shp_str _ h
  · exact .int _ _
def shapesD : List PyData := [.tuple [.str "use", .int 3], .tuple [.str "free", .int 3], .tuple [.str "price", .int 4]]
theorem shp_shapes : SeqAt.shaped (.tuple shapesD) = true := (shp.tup (k := 1) fun d hd => by
  unfold shapesD at hd
  simp only [List.mem_cons, List.not_mem_nil, or_false] at hd
  rcases hd with rfl | rfl | rfl <;> exact shS2 _ _ (by decide +kernel)).ed (by decide)
theorem edL0 (e : Ed) : ∃ w, (edL e)[0]? = some (.str w) ∧ (w = "use" ∨ w = "free" ∨ w = "price") := by
  cases e with
  | «at» b n k => cases b <;> exact ⟨_, rfl, by simp [uw]⟩
  | price g b o => exact ⟨_, rfl, by simp⟩
section
variable {P : Program} {w : World} {K : PySem.W.Frag} {mg : PySem.Str → Option Value} {base : Heap}
theorem sc_edited : FnScope ["task", "edit", "word", "gate", "mark", "price", "name", "place", "uses"] ["task", "edit"] (defScope s_edited) := ⟨rfl, rfl, rfl, by decide +kernel, rfl, by decide +kernel, by decide +kernel⟩
theorem c_edited (T : Txt K mg) : C8.Cal P w K mg base 9 "edited" (spEdited K) [] := by
  obtain ⟨fd, F⟩ := T.f_edited
  refine calN F T.g_edited sc_edited (F.bindsN fun _ _ _ _ _ _ us hl => match us, hl with | [_, _], _ => rfl) len2 (fun cdv A outer s H vs Q E hr h => ?_)
  refine ⟨_, (pss_cons (ps_if (PW.pt (pw_or (pt_cmpR op_eq (pe_callB call_len (by rfl) T.b_len (by decide +kernel) (pa_cons (pv 1) pa_nil)) pe_int (nomark _)) (pw_or1 (pt_cmpR (op_notInT hr) (pe_tup (pa_cons (pe_ix ix_tup (pv 1) pe_int (fun _ _ => rfl)) (pa_cons (pe_callB call_len (by rfl) T.b_len (by decide +kernel) (pa_cons (pv 1) pa_nil)) pa_nil))) (C8.pe_gc rfl ⟨_, T.g_SHAPES, rref _⟩) (by rfl))))) (pss_one ps_never)
      pss_nil)
      (pss_cons (ps_if (pt_cmpR op_eq (pe_ix ix_tup (pv 1) pe_int (fun _ _ => rfl)) pe_str (nomark _)) (pss_cons (ps_asg (pv 1) (pg_tup (by rfl) (pgs_cons (pg_name (i := 2) sc_edited.nd rfl (by first | exact Or.inl rfl | exact Or.inr rfl)) (pgs_cons (pg_name (i := 3) sc_edited.nd rfl (by first | exact Or.inl rfl | exact Or.inr rfl)) (pgs_cons (pg_name (i := 4) sc_edited.nd rfl (by first | exact Or.inl rfl | exact Or.inr rfl)) (pgs_cons (pg_name (i := 5) sc_edited.nd rfl (by first | exact Or.inl rfl | exact Or.inr rfl)) pgs_nil))))))
      (pss_one (ps_ret (C8.pe_mk (mk_Task T) hr (by decide) rfl (pa_cons (pe_fld (pv 0) rfl) (pa_cons (pe_fld (pv 0) rfl) (pa_cons (C8.pe_mt (mt_Prices_with_price T) hr (by decide) (pe_fld (pv 0) rfl) (pa_cons (pv 3) (pa_cons (pv 4) (pa_cons (pv 5) pa_nil)))) pa_nil)))))))
      pss_nil)
      (pss_cons (ps_asg (pv 1) (pg_tup (by rfl) (pgs_cons (pg_name (i := 2) sc_edited.nd rfl (by first | exact Or.inl rfl | exact Or.inr rfl)) (pgs_cons (pg_name (i := 6) sc_edited.nd rfl (by first | exact Or.inl rfl | exact Or.inr rfl)) (pgs_cons (pg_name (i := 7) sc_edited.nd rfl (by first | exact Or.inl rfl | exact Or.inr rfl)) pgs_nil)))))
      (pss_cons (ps_set (i := 8) sc_edited.nd rfl (by first | exact Or.inl rfl | exact Or.inr rfl) (C8.pe_mt (mt_Task_uses T) hr (by decide) (pv 0) (pa_cons (pv 6) pa_nil)))
      (pss_cons (ps_if (pt_not (pt_chain op_le op_lt pe_int (pv 7) (pe_fld (pe_fld (pv 0) rfl) rfl))) (pss_one ps_never)
      pss_nil)
      (pss_cons (ps_if (pt_cmpR op_eq (pv 2) pe_str (nomark _)) (pss_one (ps_ret (C8.pe_mt (mt_Task_with_uses T) hr (by decide) (pv 0) (pa_cons (pv 6) (pa_cons (pe_op (op_met (mt_Lot_or T) T.self rfl (hr.mono (by decide))) (pv 8) (C8.pe_mk (mk_Lot T) hr (by decide) rfl (pa_cons (pe_lst (pa_cons (pv 7) pa_nil)) pa_nil))) pa_nil)))))
      pss_nil)
      (pss_one (ps_ret (C8.pe_mt (mt_Task_with_uses T) hr (by decide) (pv 0) (pa_cons (pv 6) (pa_cons (pe_op (op_met (mt_Lot_sub T) T.self rfl (hr.mono (by decide))) (pv 8) (C8.pe_mk (mk_Lot T) hr (by decide) rfl (pa_cons (pe_lst (pa_cons (pv 7) pa_nil)) pa_nil))) pa_nil))))))))))), ?_⟩
  -- slots: 0:task 1:edit 2:word 3:gate 4:mark 5:price 6:name 7:place 8:uses
  obtain ⟨x, y, rfl, W, s, e, ht, he, oe, q⟩ := h
  obtain ⟨ys, ads, rfl, sy, al⟩ := id he.tupI
  have wok := ht.ok
  obtain ⟨ts, ⟨p, dx, w0, d, pr, rfl, hp, hw, hss, hpr⟩, seq, sok⟩ := id ht.tk
  cases e with
  | price g b o =>
    obtain ⟨v0, v1, v2, v3, rfl, d0, d1, d2, d3⟩ := DpAll.four al
    obtain rfl := d0.strI
    obtain rfl := d1.intI
    obtain rfl := d2.strI
    obtain rfl := d3.oIi
    obtain ⟨hg, ho⟩ := oe.pr _ _ _ rfl
    refine ⟨_, rfl, _, _, rfl, .inr ⟨_, sy, rfl⟩, rfl, false, congrArg V.bl (decide_eq_false (by intro z; have := V.int.inj z; simp at this)), iteF ?_⟩
    refine ⟨_, rfl, ys, _, _, _, rfl, rfl, sy, rfl, _, rfl, _, _, rfl, .inr ⟨_, sy, rfl⟩, by show 2 ≤ sizeLine; decide, fun m hm => ?_⟩
    have x1 := Ext.upd hm (o := .tup [.str "price", .int 4])
    refine ⟨.tuple [.str "price", .int 4], _, .tup (.of upd_same) (.cons (.str _) (.cons (.int _) .nil)), T.shapes _, (shS2 _ _ (by decide +kernel)).ed (by decide), shp_shapes, ?_⟩
    have ev : (shapesD.any fun z => PyData.eqv z (.tuple [.str "price", .int 4])) = true := by decide +kernel
    refine ⟨false, congrArg V.bl (show (!(shapesD.any fun z => PyData.eqv z (.tuple [.str "price", .int 4]))) = false by rw [ev]; rfl), iteF ?_⟩
    refine ⟨_, rfl, ys, _, _, _, rfl, rfl, sy.ext x1, rfl, rfl, _, rfl, iteT ?_⟩
    refine ⟨_, rfl, ys, _, rfl, sy.ext x1, rfl, _, _, rfl, _, _, rfl, _, _, rfl, _, _, rfl, rfl, ?_⟩
    obtain ⟨pp, dp, wp, tsp, tbp, rfl, hpp, _⟩ := id hpr
    refine ⟨_, rfl, p, _, dx, _, _, rfl, x1 _ _ hp, T.c_Task, T.n_Task_web, rfl, _, rfl, p, _, dx, _, _, rfl, x1 _ _ hp, T.c_Task, T.n_Task_seats, rfl, _, rfl, p, _, dx, _, _, rfl, x1 _ _ hp, T.c_Task, T.n_Task_prices, rfl, ?_⟩
    refine ⟨pp, dp, _, rfl, x1 _ _ hpp, rfl, _, rfl, _, rfl, _, rfl, ?_⟩
    refine ⟨_, _, _, _, rfl, W, s.sv, s.bk, g, b, o, hpr.ext x1, wok, rfl, rfl, rfl, hg, ho, ht.pr.os, ht.pr.ob, fun x' H2 x2 hpr2 => ?_⟩
    have x12 := x1.trans x2
    refine task_mk wok (hw.ext x12) (hss.ext x12).ins sok hpr2 fun x'' us H3 x3 tk s1 s2 => q x'' H3 (x12.trans x3) ⟨wok, ?_, us, tk, ?_, s2⟩
    · obtain ⟨ls, lb, os, ob⟩ := ht.pr
      cases b
      · exact ⟨ls, by show (s.bk.set g o).length = _; rw [List.length_set]; exact lb, os, okp_set ob ho g⟩
      · exact ⟨by show (s.sv.set g o).length = _; rw [List.length_set]; exact ls, lb, okp_set os ho g, ob⟩
    · exact s1.trans seq
  | «at» b n k =>
    obtain ⟨v0, v1, v2, rfl, d0, d1, d2⟩ := DpAll.three al
    obtain rfl := d0.strI
    obtain rfl := d1.strI
    obtain rfl := d2.intI
    obtain ⟨hn, k0, k1⟩ := oe.at_ _ _ _ rfl
    refine ⟨_, rfl, _, _, rfl, .inr ⟨_, sy, rfl⟩, rfl, false, congrArg V.bl (decide_eq_false (by intro z; have := V.int.inj z; simp at this)), iteF ?_⟩
    refine ⟨_, rfl, ys, _, _, _, rfl, rfl, sy, rfl, _, rfl, _, _, rfl, .inr ⟨_, sy, rfl⟩, by show 2 ≤ sizeLine; decide, fun m hm => ?_⟩
    have x1 := Ext.upd hm (o := .tup [.str (uw b), .int 3])
    refine ⟨.tuple [.str (uw b), .int 3], _, .tup (.of upd_same) (.cons (.str _) (.cons (.int _) .nil)), T.shapes _, (shS2 _ _ (uw_ok b)).ed (by decide), shp_shapes, ?_⟩
    have ev : (shapesD.any fun z => PyData.eqv z (.tuple [.str (uw b), .int 3])) = true := by cases b <;> decide +kernel
    refine ⟨false, congrArg V.bl (show (!(shapesD.any fun z => PyData.eqv z (.tuple [.str (uw b), .int 3]))) = false by rw [ev]; rfl), iteF ?_⟩
    have np : decide (V.str (uw b) = V.str "price") = false := by cases b <;> decide +kernel
    refine ⟨_, rfl, ys, _, _, _, rfl, rfl, sy.ext x1, rfl, rfl, _, rfl, ?_⟩
    show if decide (V.str (uw b) = V.str "price") = true then _ else _
    rw [np]
    refine iteF ⟨_, rfl, ys, _, rfl, sy.ext x1, rfl, _, _, rfl, _, _, rfl, _, _, rfl, rfl, ?_⟩
    obtain ⟨s', hs', en⟩ := List.mem_map.mp ((seq.nm n).mpr hn)
    obtain ⟨pw, dw, tew, txw, rfl, hpw, _⟩ := id hw
    have asc' := seq.asc s' hs'
    have ip' := sok.ip s' hs'
    have ln' : s'.2.length ≤ 24 := by
      have := nodup_le s'.2 (below W.n) (asc_nodup asc') fun k hk => mem_below.mpr (ip' k hk)
      have := wok.n1
      rw [below_len] at *
      omega
    refine ⟨_, rfl, p, dx, _, rfl, x1 _ _ hp, rfl, _, rfl, _, _, rfl, W, ts, s.sv, s.bk, s', ⟨p, dx, .ref pw, d, pr, rfl, x1 _ _ hp, hw.ext x1, hss.ext x1, hpr.ext x1⟩, hs', sok.nd, by rw [en], fun z lot => ?_⟩
    refine ⟨_, rfl, 0, k, rfl, rfl, true, congrArg V.bl (decide_eq_true k0), iteT ⟨_, rfl, p, _, dx, _, _, rfl, x1 _ _ hp, T.c_Task, T.n_Task_web, rfl, pw, _, dw, _, _, rfl, x1 _ _ hpw, T.c_Web, T.n_Web_places, rfl, k, W.n, rfl, rfl, true, congrArg V.bl (decide_eq_true k1), iteF ?_⟩⟩
    refine ⟨_, rfl, rfl, _, rfl, ?_⟩
    cases b with
    | true =>
      refine iteT ⟨_, rfl, p, dx, _, rfl, x1 _ _ hp, rfl, _, rfl, _, rfl, _, rfl, by show 1 ≤ sizeLine; decide, fun l hl xl dl hxl hdl nel => ?_⟩
      have x2 := x1.trans (Ext.upd hl (o := .lst [.int k]))
      refine lot_mk' (ns := [k]) hxl hdl nel ⟨_, .l (.of upd_same)⟩ (fun j hj => by rw [List.mem_singleton.mp hj]; exact k0) (by show 1 < 60; decide) fun ms H3 x3 lot2 mem => ⟨rfl, ?_⟩
      have y23 := (Ext.upd hl (o := .lst [.int k])).trans x3
      have x23 := x1.trans y23
      obtain ⟨pl, dl', tl, rfl, hpl, hl2, ac⟩ := id lot
      obtain ⟨xq, dq, tq, eq, hq, hq2, aq⟩ := id lot2
      have lms : ms.length ≤ 1 := nodup_le ms [k] (asc_nodup aq) fun j hj => (mem j).mp hj
      refine ⟨pl, xq, dl', dq, _, _, rfl, eq, y23 _ _ hpl, hq, ?_⟩
      refine ⟨_, _, rfl, s'.2, ms, lot.ext y23, eq ▸ lot2, fun j hj => (ip' j hj).1, fun j hj => by rw [List.mem_singleton.mp ((mem j).mp hj)]; exact k0, by omega, fun z' ks H4 x4 lot3 mem3 => ?_⟩
      have x14 := x23.trans x4
      have mm : ∀ j, j ∈ ks ↔ j ∈ putU true k s'.2 := fun j => by
        rw [mem3 j, mem_putU, mem j, List.mem_singleton]
        by_cases c : j = k <;> simp [c]
      have irk : ∀ j ∈ ks, InR W.n j := fun j hj => by
        rcases mem_putU.mp ((mm j).mp hj) with ⟨z, _⟩ | ⟨_, z⟩
        · exact ip' j z
        · rw [z]
          exact ⟨k0, k1⟩
      have asck : Asc ks := lot3.elim fun _ z => z.elim fun _ z => z.elim fun _ z => z.2.2.2
      refine ⟨_, _, _, rfl, W, ts, s.sv, s.bk, n, ks, ⟨p, dx, .ref pw, d, pr, rfl, x14 _ _ hp, hw.ext x14, hss.ext x14, hpr.ext x14⟩, wok, sok, rfl, (seq.nm n).mpr hn, lot3, irk, fun x' us H5 x5 tk s1 s2 => ?_⟩
      exact q x' H5 (x14.trans x5) ⟨wok, ht.pr, us, tk, s1.trans (seq_set seq hs' en mm asck), s2⟩
    | false =>
      refine iteF ⟨_, rfl, p, dx, _, rfl, x1 _ _ hp, rfl, _, rfl, _, rfl, _, rfl, by show 1 ≤ sizeLine; decide, fun l hl xl dl hxl hdl nel => ?_⟩
      have x2 := x1.trans (Ext.upd hl (o := .lst [.int k]))
      refine lot_mk' (ns := [k]) hxl hdl nel ⟨_, .l (.of upd_same)⟩ (fun j hj => by rw [List.mem_singleton.mp hj]; exact k0) (by show 1 < 60; decide) fun ms H3 x3 lot2 mem => ⟨rfl, ?_⟩
      have y23 := (Ext.upd hl (o := .lst [.int k])).trans x3
      have x23 := x1.trans y23
      obtain ⟨pl, dl', tl, rfl, hpl, hl2, ac⟩ := id lot
      obtain ⟨xq, dq, tq, eq, hq, hq2, aq⟩ := id lot2
      have lms : ms.length ≤ 1 := nodup_le ms [k] (asc_nodup aq) fun j hj => (mem j).mp hj
      refine ⟨pl, xq, dl', dq, _, _, rfl, eq, y23 _ _ hpl, hq, ?_⟩
      refine ⟨_, _, rfl, s'.2, ms, lot.ext y23, eq ▸ lot2, fun j hj => (ip' j hj).1, by omega, fun z' ks H4 x4 lot3 mem3 => ?_⟩
      have x14 := x23.trans x4
      have mm : ∀ j, j ∈ ks ↔ j ∈ putU false k s'.2 := fun j => by
        rw [mem3 j, mem_putU, mem j, List.mem_singleton]
        by_cases c : j = k <;> simp [c]
      have irk : ∀ j ∈ ks, InR W.n j := fun j hj => by
        rcases mem_putU.mp ((mm j).mp hj) with ⟨z, _⟩ | ⟨_, z⟩
        · exact ip' j z
        · rw [z]
          exact ⟨k0, k1⟩
      have asck : Asc ks := lot3.elim fun _ z => z.elim fun _ z => z.elim fun _ z => z.2.2.2
      refine ⟨_, _, _, rfl, W, ts, s.sv, s.bk, n, ks, ⟨p, dx, .ref pw, d, pr, rfl, x14 _ _ hp, hw.ext x14, hss.ext x14, hpr.ext x14⟩, wok, sok, rfl, (seq.nm n).mpr hn, lot3, irk, fun x' us H5 x5 tk s1 s2 => ?_⟩
      exact q x' H5 (x14.trans x5) ⟨wok, ht.pr, us, tk, s1.trans (seq_set seq hs' en mm asck), s2⟩
end
end Sv
namespace Sv
open PySem PySem.Spec PyProof.Rows L2
/-! ### all_sets -/
theorem calD {P : Program} {w : World} {K : PySem.W.Frag} {mg : PySem.Str → Option Value} {base : Heap} {x : PySem.Str} {pa : Arguments} {bd : List Stmt} {sc : Scope} {f : Addr} {fd : FuncData} {N ps : List PySem.Str} {k : Nat} {sp : Sp} {dvs dv : List V} {ds : List Value} (F : FunD K x x pa bd sc dvs [] f fd) (g : mg x = some (.ref f)) (S : FnScope N ps sc) (b : Binds K fd ps ds) (v : Vals dv ds) (len : ∀ vs H Q E, sp vs H Q E → vs.length = ps.length)
    (hbody : ∀ (cdv : Value) (A : Around) (outer : List Env) (s : Shared) (H : Hp) (vs : List V) (Q : VK) (E : XK), Room k (A.deeper (envOfC x sc s.heap.objs.size f cdv)) → sp vs H Q E →
      ∃ t, PSs (cxOf CX0 P w K mg base N x sc f cdv A outer s H E).nox bd t ∧ t { nx := fun _ H' => Q .non H', rt := Q } (start N vs) H) : C8.Cal P w K mg base (k + 1) x sp dv :=
  ⟨f, fd, ps, ds, F.ok S len fun cdv A outer s H vs Q E hr h => by
    obtain ⟨t, ht, q⟩ := hbody cdv A outer s H vs Q E hr h
    exact ⟨t, ht.nox, q⟩, g, F.kp, b, v⟩
def allS (c : Nat) : Nat → Nat → List (List Nat)
  | 0, _ => [[]]
  | s + 1, f => (List.range (c - f)).flatMap fun i => (allS c s (f + i + 1)).map ((f + i) :: ·)
def nV (l : List Nat) : List V := l.map fun n => V.int (n : Nat)
def nD (l : List Nat) : PyData := .tuple (l.map fun n => PyData.int (n : Nat))
theorem dps_n {K : PySem.W.Frag} {H : Hp} : ∀ l : List Nat, DpAll K H (nV l) (l.map fun n => PyData.int (n : Nat))
  | [] => .nil
  | n :: l => .cons (.int _) (dps_n l)
theorem dps_nI {K : PySem.W.Frag} {H : Hp} : ∀ {xs : List V} {l : List Nat}, DpAll K H xs (l.map fun n => PyData.int (n : Nat)) → xs = nV l
  | _, [], .nil => rfl
  | _, n :: l, .cons a b => by rw [a.intI, dps_nI b]; rfl
theorem tu_off {D F : Addr} {H : Hp} {l : List V} (h : H F = some (.lst l)) : Tu (Off D H) (Off F H) := fun a xs r => by
  have n : ∀ u, H a = some u → u ≠ .lst l → a ≠ F := fun u e n z => by
    rw [z, h] at e
    exact n (Option.some.inj e).symm
  rcases r with r | ⟨o, r⟩
  · have r' := off_le _ _ r
    exact .inl (by rw [off_ne (n _ r' (by intro z; cases z))]; exact r')
  · have r' := off_le _ _ r
    exact .inr ⟨o, by rw [off_ne (n _ r' (by intro z; cases z))]; exact r'⟩
theorem nl_nD (l : List Nat) : nl (nD l) = true := by
  unfold nD
  rw [nl]
  induction l with
  | nil => rfl
  | cons n l ih =>
    rw [List.map_cons, nlAll, ih]
    rfl
theorem nls_nD (ls : List (List Nat)) : nlAll (ls.map nD) = true := by
  induction ls with
  | nil => rfl
  | cons l ls ih =>
    rw [List.map_cons, nlAll, ih, nl_nD]
    rfl
/-- more is put behind a list that is made -/
theorem Made.extend {K : PySem.W.Frag} {H1 H H' : Hp} {F D : Addr} {ds es : List PyData} (m : Made K H1 F ds H) (m2 : Made K H D es H') (ne : nlAll es = true) : ∃ acc acc2, H' F = some (.lst acc) ∧ H' D = some (.lst acc2) ∧ acc.length = ds.length ∧ acc2.length = es.length ∧ Made K H1 F (ds ++ es) (upd H' F (.lst (acc ++ acc2))) := by
  obtain ⟨acc, x, e, q⟩ := m
  obtain ⟨acc2, x2, e2, q2⟩ := m2
  have xx := x2.trans off_le
  refine ⟨acc, acc2, xx _ _ e, e2, q.len, q2.len, acc ++ acc2, ?_, upd_same, ?_⟩
  · rw [off_put]
    exact x.trans (Ext.off xx)
  · rw [off_put]
    exact (q.ext (Ext.off xx)).app (DpAll.tu (tu_off (xx _ _ e)) es acc2 ne q2)
theorem allS_bound : ∀ c, c ≤ 6 → ∀ s, s ≤ 6 → ∀ f, f ≤ 7 → (allS c s f).length ≤ 64 := by decide +kernel
theorem fm_map {α β : Type} (g : α → β) (l : List α) : (List.range l.length).filterMap (fun k => (l[k]?).map g) = l.map g := by
  induction l with
  | nil => rfl
  | cons x l ih =>
    rw [List.length_cons, List.range_succ_eq_map, List.filterMap_cons, List.filterMap_map]
    have e : (List.range l.length).filterMap ((fun k => ((x :: l)[k]?).map g) ∘ Nat.succ) = l.map g := by
      rw [← ih]
      rfl
    rw [e]
    rfl
theorem take_len (c s f i : Nat) (hi : i < c - f) : ((List.range i).flatMap fun i => (allS c s (f + i + 1)).map ((f + i) :: ·)).length + (allS c s (f + i + 1)).length ≤ (allS c (s + 1) f).length := by
  have e : List.range (c - f) = List.range i ++ (i :: (List.range (c - f)).drop (i + 1)) := by
    have h1 : (List.range (c - f)).take i = List.range i := by
      rw [List.take_range, Nat.min_eq_left (Nat.le_of_lt hi)]
    rw [← h1]
    have h2 : i < (List.range (c - f)).length := by rw [List.length_range]; exact hi
    have h3 := List.drop_eq_getElem_cons h2
    rw [List.getElem_range] at h3
    rw [← h3, List.take_append_drop]
  show _ ≤ ((List.range (c - f)).flatMap _).length
  rw [e, List.flatMap_append, List.length_append, List.flatMap_cons, List.length_append, List.length_map]
  omega
theorem lenS_all : ∀ c, c ≤ 6 → ∀ s, s ≤ 6 → ∀ f, f ≤ 13 → ∀ l ∈ allS c s f, l.length ≤ 6 := by decide +kernel
def spAll (K : PySem.W.Frag) (m : Nat) : Sp := sp3 fun x y z H Q => ∃ (c s f : Nat), x = .int (c : Nat) ∧ y = .int (s : Nat) ∧ z = .int (f : Nat) ∧ s ≤ m ∧ c ≤ 6 ∧ f ≤ 7 ∧ s ≤ 6 ∧ ∀ D H', H D = none → Ext H H' → Dp K H' (.ref D) (.list ((allS c s f).map nD)) → Q (.ref D) H'
section
variable {P : Program} {w : World} {K : PySem.W.Frag} {mg : PySem.Str → Option Value} {base : Heap}
theorem bd_all (T : Txt K mg) : ∃ fd, FunD K "all_sets" "all_sets" (defArgs s_all_sets) (defBody s_all_sets) (defScope s_all_sets) [.int 0] [] (He.ga K "all_sets") fd ∧ Binds K fd ["count", "size", "first"] [] ∧ ∃ ds, Vals [V.int 0] ds ∧ Binds K fd ["count", "size", "first"] ds := by
  obtain ⟨fd, F⟩ := T.f_all_sets
  obtain ⟨d1, v1, b1⟩ := F.binds1 (ps := ["count", "size", "first"]) 3 1 (by simp) rfl fun T kV doc pm an cdv ct us its hu hi => match us, hu, its, hi with | [_, _, _], _, [_], _ => ⟨_, rfl, rfl⟩
  obtain ⟨d2, v2, b2⟩ := F.binds1 (ps := ["count", "size", "first"]) 2 0 (by simp) rfl fun T kV doc pm an cdv ct us its hu hi => match us, hu, its, hi with | [_, _], _, [_], _ => ⟨_, rfl, rfl⟩
  cases v1
  exact ⟨fd, F, b1, d2, v2, b2⟩
theorem sc_all_sets : FnScope ["count", "size", "first", "found", "number", "others"] ["count", "size", "first"] (defScope s_all_sets) := ⟨rfl, rfl, rfl, by decide +kernel, rfl, by decide +kernel, by decide +kernel⟩
theorem all_step (T : Txt K mg) (j m : Nat) (rec : C8.Cal P w K mg base (j + 1) "all_sets" (fun vs H Q E => ∃ m', m = m' + 1 ∧ spAll K m' vs H Q E) []) :
    (∀ dv, dv = [] ∨ dv = [V.int 0] → C8.Cal P w K mg base (j + 2) "all_sets" (spAll K m) dv) := by
  obtain ⟨fd, F, b1, d2, v2, b2⟩ := bd_all T
  have body : ∀ (cdv : Value) (A : Around) (outer : List Env) (s : Shared) (H : Hp) (vs : List V) (Q : VK) (E : XK), Room (j + 1) (A.deeper (envOfC "all_sets" (defScope s_all_sets) s.heap.objs.size (He.ga K "all_sets") cdv)) → spAll K m vs H Q E →
      ∃ t, PSs (cxOf CX0 P w K mg base ["count", "size", "first", "found", "number", "others"] "all_sets" (defScope s_all_sets) (He.ga K "all_sets") cdv A outer s H E).nox (defBody s_all_sets) t ∧ t { nx := fun _ H' => Q .non H', rt := Q } (start ["count", "size", "first", "found", "number", "others"] vs) H := by
    intro cdv A outer s H vs Q E hr h
    refine ⟨_, (pss_cons (ps_if (pt_cmpR op_eq (pv 1) pe_int (nomark _)) (pss_one (ps_ret (pe_lst (pa_cons (pe_tup pa_nil) pa_nil))))
      pss_nil)
      (pss_cons (ps_set (i := 3) sc_all_sets.nd rfl (by first | exact Or.inl rfl | exact Or.inr rfl) (pe_lst pa_nil))
      (pss_cons (ps_for PassesOwn.never rfl (pi_range2 (by rfl) T.b_range (pa_cons (pv 2) (pa_cons (pv 0) pa_nil))) (pg_name (i := 4) sc_all_sets.nd rfl (by first | exact Or.inl rfl | exact Or.inr rfl))
      (pss_one (ps_expr (pe_bm PySem.F.plainAttrs_list PySem.F.slot_list_extend PySem.F.type_list_extend mt_extend (pv 3) (pa_cons (pe_lc (own := [("others", 5)]) (g := gName 5) (tt := tYes) rfl sc_all_sets.nd (pi_list (C8.pe_c rec hr (Nat.le_refl _) rfl (pa_cons (pv 0) (pa_cons (pe_op op_sub (pv 1) pe_int) (pa_cons (pe_op op_add (pv 4) pe_int) pa_nil))))) (blkOk_by (own := [("others", 5)]) (N := ["count", "size", "first", "found", "number", "others"]) (sc := defScope s_all_sets) (by decide +kernel)) (fun _ _ _ _ _ => pg_name (i := 5) sc_all_sets.nd rfl (by first | exact Or.inl rfl | exact Or.inr rfl)) (fun _ _ _ _ _ => pts_nil) (fun _ _ _ _ _ => (pe_tup (pa_cons (pv 4) (pa_starK K rfl (pv 5) pa_nil))))) pa_nil)))))
      (pss_one (ps_ret (pv 3)))))), ?_⟩
    obtain ⟨x, y, z, rfl, c, sz, f, rfl, rfl, rfl, h1, h2, h3, h4, q⟩ := h
    have lin : 2000 < sizeLine := by rw [sizeLine_eq]; omega
    cases sz with
    | zero =>
      refine ⟨_, rfl, rfl, true, congrArg V.bl (decide_eq_true rfl), iteT ⟨Nat.zero_le _, fun t ht => ⟨by show 1 ≤ sizeLine; omega, fun l hl => ?_⟩⟩⟩
      refine q l _ (Ext.non (Ext.upd ht) hl) ((Ext.upd ht).trans (Ext.upd hl)) (.lst (.of upd_same) (.cons (.tup (a := t) (.of ?_) .nil) .nil))
      exact Ext.upd hl _ _ upd_same
    | succ sz =>
      refine ⟨_, rfl, rfl, false, congrArg V.bl (decide_eq_false (by intro z; have := V.int.inj z; omega)), iteF ⟨Nat.zero_le _, fun L hL => ?_⟩⟩
      have en : ((c : Int) - (f : Int)).toNat = c - f := by omega
      refine ⟨_, rfl, _, rfl, f, c, rfl, ⟨by omega, by omega, by omega, by omega⟩, for_range (fun i σ H' => ∃ v4 v5, σ = [some (.int c), some (.int ((sz + 1 : Nat) : Int)), some (.int f), some (.ref L), v4, v5] ∧ Made K H L (((List.range i).flatMap fun i => (allS c sz (f + i + 1)).map ((f + i) :: ·)).map nD) H') ⟨_, _, rfl, .new hL⟩ ?_ ?_⟩
      · rintro i σ H' hi ⟨v4, v5, rfl, md⟩
        rw [en] at hi
        obtain ⟨acc, _, hacc, _⟩ := id md
        refine ⟨_, rfl, .inl ⟨rfl, _, .of hacc⟩, _, rfl, _, rfl, _, _, rfl, rfl, _, rfl, _, _, rfl, rfl, ?_⟩
        obtain ⟨m', rfl⟩ : ∃ m', m = m' + 1 := ⟨m - 1, by omega⟩
        refine ⟨m', rfl, _, _, _, rfl, c, sz, f + i + 1, rfl, congrArg V.int (by omega), congrArg V.int (by omega), by omega, h2, by omega, by omega, fun D1 H1 _ x1 dp1 => ?_⟩
        obtain ⟨_, xs, e1, sq, al⟩ := dp1.lstI
        cases e1
        have lxs : xs.length = (allS c sz (f + i + 1)).length := by rw [al.len, List.length_map]
        have bnd := allS_bound c h2 (sz + 1) h4 f h3
        have tl := take_len c sz f i hi
        refine ⟨D1, rfl, ⟨xs, sq⟩, fun D hD => lcD_list (fun k => ((allS c sz (f + i + 1))[k]?).map fun l => nD ((f + i) :: l)) hD sq (by omega) ?_ ?_⟩
        · intro k x H2 Nx hk x2 tn
          obtain ⟨d, hd, dp⟩ := al.get hk
          rw [List.getElem?_map] at hd
          obtain ⟨l, hl, rfl⟩ := Option.map_eq_some_iff.mp hd
          obtain ⟨t, ys, rfl, sy, aly⟩ := dp.tupI
          obtain rfl := dps_nI aly
          have ee : ((f : Int) + (i : Nat)) = ((f + i : Nat) : Int) := by omega
          refine ⟨rfl, _, rfl, _, rfl, t, _, rfl, .inl (sy.ext (x2.trans off_le)), ?_, fun mm hmm => tn.keepN (d := nD ((f + i) :: l)) (by rw [hl]; rfl) hmm (.tup (.of upd_same) ?_)⟩
          · have := lenS_all c h2 sz (by omega) (f + i + 1) (by omega) l (List.mem_of_getElem? hl)
            simp only [nV, List.length_cons, List.length_append, List.length_map, List.length_nil]
            omega
          · rw [List.append_nil, ee]
            exact .cons (.int _) (dps_n l)
        · intro H2 md2
          rw [lxs, fm_map] at md2
          have md3 : Made K H' D (((allS c sz (f + i + 1)).map ((f + i) :: ·)).map nD) H2 := by
            obtain ⟨a2, y1, y2, y3⟩ := md2
            refine ⟨a2, x1.trans y1, y2, ?_⟩
            rw [List.map_map]
            exact y3
          obtain ⟨acc1, acc2, e1, e2, l1, l2, md4⟩ := md.extend md3 (nls_nD _)
          rw [List.length_map] at l1 l2
          rw [List.length_map] at l2
          refine ⟨L, D, acc1, acc2, rfl, rfl, e1, e2, by omega, _, _, rfl, ?_⟩
          rw [List.range_succ, List.flatMap_append, List.flatMap_singleton, List.map_append]
          exact md4
      · rintro σ H' ⟨v4, v5, rfl, md⟩
        rw [en] at md
        exact ⟨_, rfl, q L H' hL md.ext1 md.dp⟩
  rintro dv (rfl | rfl)
  · exact calD F T.g_all_sets sc_all_sets b1 .nil len3 body
  · exact calD F T.g_all_sets sc_all_sets b2 v2 len3 body
theorem c_all_sets (T : Txt K mg) : ∀ (m : Nat) (dv : List V), dv = [] ∨ dv = [V.int 0] → C8.Cal P w K mg base (m + 2) "all_sets" (spAll K m) dv
  | 0, dv, h => by
    obtain ⟨fd, F, b1, _⟩ := bd_all T
    refine all_step T 0 0 (calD F T.g_all_sets sc_all_sets b1 .nil (fun vs H Q E h => ?_) fun cdv A outer s H vs Q E hr h => ?_) dv h
    · obtain ⟨m', e, _⟩ := h
      cases e
    · obtain ⟨m', e, _⟩ := h
      cases e
  | m + 1, dv, h => by
    have e : (fun vs H Q E => ∃ m', m + 1 = m' + 1 ∧ spAll K m' vs H Q E) = spAll K m := by
      funext vs H Q E
      refine propext ⟨fun ⟨m', e, z⟩ => ?_, fun z => ⟨m, rfl, z⟩⟩
      cases e
      exact z
    refine all_step T (m + 1) (m + 1) ?_ dv h
    rw [e]
    exact c_all_sets T m [] (.inl rfl)
end
end Sv
namespace Sv
open PySem PySem.Spec PyProof.Rows L2
/-! ### clash, counts, holds_one, behind, check_menu -/
def clashF : Ed → Ed → Bool
  | .price g b _, .price g' b' _ => decide (g = g') && decide (b = b')
  | .at b n k, .at b' n' k' => !decide (b = b') && (decide (n = n') && decide (k = k'))
  | _, _ => false
def OkS (e : Ed) : Prop := ∀ b n k, e = .at b n k → PyData.strOk n = true
def spClash (K : PySem.W.Frag) : Sp := sp2 fun x y H Q => ∃ e f, Dp K H x (edD e) ∧ Dp K H y (edD f) ∧ OkS e ∧ OkS f ∧ ∀ H', Ext H H' → Q (.bl (clashF e f)) H'
theorem nb_o (o : Option Int) : nb (oI o) = true := by cases o <;> rfl
theorem nb_edL (e : Ed) : ∀ d ∈ edL e, nb d = true := by
  intro d hd
  cases e with
  | «at» b n k =>
    simp only [edL, List.mem_cons, List.not_mem_nil, or_false] at hd
    rcases hd with rfl | rfl | rfl <;> rfl
  | price g b o =>
    simp only [edL, List.mem_cons, List.not_mem_nil, or_false] at hd
    rcases hd with rfl | rfl | rfl | rfl
    · rfl
    · rfl
    · rfl
    · exact nb_o o
theorem nbAll_of : ∀ {ds : List PyData}, (∀ d ∈ ds, nb d = true) → nbAll ds = true
  | [], _ => rfl
  | d :: ds, h => by
    rw [nbAll, h d List.mem_cons_self, nbAll_of fun x hx => h x (List.mem_cons_of_mem _ hx)]
    rfl
theorem nbT {ds : List PyData} (h : ∀ d ∈ ds, nb d = true) : nb (.tuple ds) = true := by
  rw [nb]
  exact nbAll_of h
theorem shp_edL {e : Ed} (h : OkS e) : ∀ d ∈ edL e, shp 0 d := by
  intro d hd
  cases e with
  | «at» b n k =>
    simp only [edL, List.mem_cons, List.not_mem_nil, or_false] at hd
    rcases hd with rfl | rfl | rfl
    · exact shp_str _ (uw_ok b)
    · exact shp_str _ (h _ _ _ rfl)
    · exact .int _ _
  | price g b o =>
    simp only [edL, List.mem_cons, List.not_mem_nil, or_false] at hd
    rcases hd with rfl | rfl | rfl | rfl
    · exact shp_str _ (by decide +kernel)
    · exact .int _ _
    · exact shp_str _ (wd_ok b)
    · exact .o o _
theorem sub_ok {e f : Ed} (he : OkS e) (hf : OkS f) {ds es : List PyData} (h1 : ∀ d ∈ ds, d ∈ edL e) (h2 : ∀ d ∈ es, d ∈ edL f) {b : Bool} (hb : ds = es ↔ b = true) : SeqAt.shaped (.tuple ds) = true ∧ SeqAt.shaped (.tuple es) = true ∧ PyData.eqv (.tuple ds) (.tuple es) = b := by
  refine ⟨(shp.tup fun d hd => shp_edL he d (h1 d hd)).ed (by decide), (shp.tup fun d hd => shp_edL hf d (h2 d hd)).ed (by decide), ?_⟩
  have e1 := eqv_dec (d := .tuple ds) (e := .tuple es) (p := b = true) (nbT fun d hd => nb_edL e d (h1 d hd)) (nbT fun d hd => nb_edL f d (h2 d hd)) ?_
  · rw [e1]
    cases b <;> rfl
  · rw [← hb]
    exact ⟨fun z => by cases z; rfl, fun z => by rw [z]⟩
theorem wd_iff {a b : Bool} : wd a = wd b ↔ a = b := by
  cases a <;> cases b <;> decide +kernel
theorem uw_inj {a b : Bool} : uw a = uw b ↔ a = b := by
  cases a <;> cases b <;> decide +kernel
theorem uw_ne {a : Bool} : uw a ≠ "price" := by
  cases a <;> decide +kernel
theorem t3_p (g : Nat) (b : Bool) (o : Option Int) (f : Ed) : (edL (.price g b o)).take 3 = (edL f).take 3 ↔ clashF (.price g b o) f = true := by
  cases f with
  | price g' b' o' =>
    simp only [edL, clashF, List.take_succ_cons, List.take_zero, List.cons.injEq, PyData.int.injEq, PyData.str.injEq, Bool.and_eq_true, decide_eq_true_eq, true_and, and_true, wd_iff, Int.natCast_inj]
  | «at» b' n k =>
    simp only [edL, clashF, List.take_succ_cons, List.take_zero, List.cons.injEq, PyData.str.injEq]
    exact ⟨fun z => absurd z.1.symm uw_ne, fun z => by cases z⟩
theorem t3_a (b' : Bool) (n : PySem.Str) (k : Int) (g : Nat) (b : Bool) (o : Option Int) : (edL (.at b' n k)).take 3 = (edL (.price g b o)).take 3 ↔ clashF (.at b' n k) (.price g b o) = true := by
  simp only [edL, clashF, List.take_succ_cons, List.take_zero, List.cons.injEq, PyData.str.injEq]
  exact ⟨fun z => absurd z.1 uw_ne, fun z => by cases z⟩
theorem d1_a (b b' : Bool) (n n' : PySem.Str) (k k' : Int) : (edL (.at b n k)).drop 1 = (edL (.at b' n' k')).drop 1 ↔ (decide (n = n') && decide (k = k')) = true := by
  simp [edL]
section
variable {P : Program} {w : World} {K : PySem.W.Frag} {mg : PySem.Str → Option Value} {base : Heap}
theorem sc_clash : FnScope ["one", "two"] ["one", "two"] (defScope s_clash) := ⟨rfl, rfl, rfl, by decide +kernel, rfl, by decide +kernel, by decide +kernel⟩
theorem c_clash (T : Txt K mg) : C8.Cal P w K mg base 1 "clash" (spClash K) [] := by
  obtain ⟨fd, F⟩ := T.f_clash
  refine calN F T.g_clash sc_clash (F.bindsN fun _ _ _ _ _ _ us hl => match us, hl with | [_, _], _ => rfl) len2 (fun cdv A outer s H vs Q E hr h => ?_)
  refine ⟨_, (pss_cons (ps_if (PW.pt (pw_or (pt_cmpR op_eq (pe_ix ix_tup (pv 0) pe_int (fun _ _ => rfl)) pe_str (nomark _)) (pw_or1 (pt_cmpR op_eq (pe_ix ix_tup (pv 1) pe_int (fun _ _ => rfl)) pe_str (nomark _))))) (pss_one (ps_ret (pe_cmpR (op_eqD hr.units) (pe_slice sl_tupA (pv 0) po_none (po_some pe_int)) (pe_slice sl_tupA (pv 1) po_none (po_some pe_int)) (nomark _))))
      pss_nil)
      (pss_one (ps_ret (pe_and (pe_cmpR op_ne (pe_ix ix_tup (pv 0) pe_int (fun _ _ => rfl)) (pe_ix ix_tup (pv 1) pe_int (fun _ _ => rfl)) (nomark _)) (pe_one (pe_cmpR (op_eqD hr.units) (pe_slice sl_tupA (pv 0) (po_some pe_int) po_none) (pe_slice sl_tupA (pv 1) (po_some pe_int) po_none) (nomark _))))))), ?_⟩
  -- slots: 0:one 1:two
  obtain ⟨x, y, rfl, e, f, de, df, se, sf, q⟩ := h
  obtain ⟨a, xs, rfl, sx, ax⟩ := de.tupI
  obtain ⟨b, ys, rfl, sy, ay⟩ := df.tupI
  cases e with
  | price g1 b1 o1 =>
    obtain ⟨u0, u1, u2, u3, rfl, du0, du1, du2, du3⟩ := DpAll.four ax
    obtain rfl := du0.strI
    have n1 : decide (V.str "price" = V.str "price") = true := decide_eq_true rfl
    refine ⟨_, rfl, a, _, _, _, rfl, rfl, sx, rfl, rfl, _, rfl, ?_⟩
    show if decide (V.str "price" = V.str "price") = true then _ else _
    rw [n1]
    refine iteT ⟨_, rfl, 3, rfl, slT_take sx ax 3 fun z1 H1 y1 dz1 => ?_⟩
    refine ⟨_, rfl, 3, rfl, slT_take (sy.ext y1) (ay.ext y1) 3 fun z2 H2 y2 dz2 => ?_⟩
    obtain ⟨sh1, sh2, ev⟩ := sub_ok se sf (fun d hd => List.mem_of_mem_take hd) (fun d hd => List.mem_of_mem_take hd) (t3_p g1 b1 o1 f)
    refine ⟨_, _, dz1.ext y2, dz2, sh1, sh2, ?_⟩
    rw [ev]
    exact q H2 (y1.trans y2)
  | «at» b1 n1' k1 =>
    obtain ⟨u0, u1, u2, rfl, du0, du1, du2⟩ := DpAll.three ax
    obtain rfl := du0.strI
    have n1 : decide (V.str (uw b1) = V.str "price") = false := decide_eq_false fun z => uw_ne (V.str.inj z)
    refine ⟨_, rfl, a, _, _, _, rfl, rfl, sx, rfl, rfl, _, rfl, ?_⟩
    show if decide (V.str (uw b1) = V.str "price") = true then _ else _
    rw [n1]
    refine iteF ?_
    cases f with
    | price g2 b2 o2 =>
      obtain ⟨w0, w1, w2, w3, rfl, dw0, dw1, dw2, dw3⟩ := DpAll.four ay
      obtain rfl := dw0.strI
      have n2 : decide (V.str "price" = V.str "price") = true := decide_eq_true rfl
      refine ⟨_, rfl, b, _, _, _, rfl, rfl, sy, rfl, rfl, _, rfl, ?_⟩
      show if decide (V.str "price" = V.str "price") = true then _ else _
      rw [n2]
      refine iteT ⟨_, rfl, 3, rfl, slT_take sx ax 3 fun z1 H1 y1 dz1 => ?_⟩
      refine ⟨_, rfl, 3, rfl, slT_take (sy.ext y1) (ay.ext y1) 3 fun z2 H2 y2 dz2 => ?_⟩
      obtain ⟨sh1, sh2, ev⟩ := sub_ok se sf (fun d hd => List.mem_of_mem_take hd) (fun d hd => List.mem_of_mem_take hd) (t3_a b1 n1' k1 g2 b2 o2)
      refine ⟨_, _, dz1.ext y2, dz2, sh1, sh2, ?_⟩
      rw [ev]
      exact q H2 (y1.trans y2)
    | «at» b2 n2' k2 =>
      obtain ⟨w0, w1, w2, rfl, dw0, dw1, dw2⟩ := DpAll.three ay
      obtain rfl := dw0.strI
      have n2 : decide (V.str (uw b2) = V.str "price") = false := decide_eq_false fun z => uw_ne (V.str.inj z)
      refine ⟨_, rfl, b, _, _, _, rfl, rfl, sy, rfl, rfl, _, rfl, ?_⟩
      show if decide (V.str (uw b2) = V.str "price") = true then _ else _
      rw [n2]
      refine iteF ?_
      refine ⟨_, rfl, a, _, _, _, rfl, rfl, sx, rfl, _, rfl, b, _, _, _, rfl, rfl, sy, rfl, rfl, _, rfl, ?_⟩
      have e1 : decide (V.str (uw b1) = V.str (uw b2)) = decide (b1 = b2) := decide_eq_decide.mpr ⟨fun z => uw_inj.mp (V.str.inj z), fun z => by rw [z]⟩
      show if (!decide (V.str (uw b1) = V.str (uw b2))) = true then _ else _
      rw [e1]
      by_cases hb : b1 = b2
      · have e2 : clashF (.at b1 n1' k1) (.at b2 n2' k2) = false := by
          show (!decide (b1 = b2) && _) = false
          rw [decide_eq_true hb]
          rfl
        rw [e2] at q
        rw [decide_eq_true hb]
        exact iteF (q H Ext.rfl')
      · have e2 : clashF (.at b1 n1' k1) (.at b2 n2' k2) = (decide (n1' = n2') && decide (k1 = k2)) := by
          show (!decide (b1 = b2) && _) = _
          rw [decide_eq_false hb]
          rfl
        rw [e2] at q
        rw [decide_eq_false hb]
        refine iteT ⟨_, rfl, 1, rfl, ?_⟩
        unfold tNoPart
        refine slT_drop (k := 1) sx ax fun z1 H1 y1 dz1 => ⟨_, rfl, 1, rfl, ?_⟩
        refine slT_drop (k := 1) (sy.ext y1) (ay.ext y1) fun z2 H2 y2 dz2 => ?_
        obtain ⟨sh1, sh2, ev⟩ := sub_ok se sf (fun d hd => List.mem_of_mem_drop hd) (fun d hd => List.mem_of_mem_drop hd) (d1_a b1 b2 n1' n2' k1 k2)
        refine ⟨_, _, dz1.ext y2, dz2, sh1, sh2, ?_⟩
        rw [ev]
        exact q H2 (y1.trans y2)
end
end Sv
namespace Sv
open PySem PySem.Spec PyProof.Rows L2
/-! ### counts, holds_one, behind, check_menu -/
def eAt (es : List Ed) (a : Nat) : Ed := es.getD a (.price 0 false none)
def countsF (es : List Ed) : List Nat → Bool
  | [] => true
  | a :: l => !(l.any fun b => clashF (eAt es a) (eAt es b)) && countsF es l
def spCounts (K : PySem.W.Frag) : Sp := sp2 fun x y H Q => ∃ es l, Dp K H x (.list (es.map edD)) ∧ Dp K H y (nD l) ∧ (∀ e ∈ es, OkS e) ∧ (∀ a ∈ l, a < es.length) ∧ l.length ≤ 6 ∧ ∀ H', Ext H H' → Q (.bl (countsF es l)) H'
def holdsF (found : List (List Nat)) (l : List Nat) : Bool := found.any fun m => m.all fun a => decide (a ∈ l)
def spHolds (K : PySem.W.Frag) : Sp := sp2 fun x y H Q => ∃ ls l, Dp K H x (.list (ls.map nD)) ∧ Dp K H y (nD l) ∧ l.length ≤ 6 ∧ ls.length ≤ 1000 ∧ (∀ m ∈ ls, m.length ≤ 6) ∧ ∀ H', Ext H H' → Q (.bl (holdsF ls l)) H'
def runE (es : List Ed) (l : List Nat) (s : St) : St := l.foldl (fun s a => stepE (eAt es a) s) s
def spBehind (K : PySem.W.Frag) : Sp := sp3 fun x y z H Q => ∃ W s, ∃ (es : List Ed) (l : List Nat), IsT K H x W s ∧ Dp K H y (.list (es.map edD)) ∧ Dp K H z (nD l) ∧ (∀ e ∈ es, OkE W (s.ss.map Prod.fst) e) ∧ (∀ a ∈ l, a < es.length) ∧ ∀ x' H', Ext H H' → IsT K H' x' W (runE es l s) → Q x' H'
def spCheckMenu (K : PySem.W.Frag) : Sp := sp2 fun x y H Q => ∃ W s, ∃ es : List Ed, IsT K H x W s ∧ Dp K H y (.list (es.map edD)) ∧ (∀ e ∈ es, OkE W (s.ss.map Prod.fst) e ∧ OkS e) ∧ es.length ≤ 6 ∧ es.Nodup ∧ ∀ H', Ext H H' → Q .non H'
theorem counts_drop {es : List Ed} {l : List Nat} {i a : Nat} (h : l[i]? = some a) : countsF es (l.drop i) = (!((l.drop (i + 1)).any fun b => clashF (eAt es a) (eAt es b)) && countsF es (l.drop (i + 1))) := by
  have hl := (List.getElem?_eq_some_iff.mp h)
  rw [List.drop_eq_getElem_cons hl.1, hl.2]
  rfl
theorem hu65 {k : Nat} {A : Around} (r : Room k A) : A.units + 65 < cLine := by
  have := r.un
  omega
theorem step_names (e : Ed) (s : St) : (stepE e s).ss.map Prod.fst = s.ss.map Prod.fst := by
  cases e with
  | «at» b n k => exact fst_setU b n k s.ss
  | price g b o => rfl
theorem run_names (es : List Ed) (l : List Nat) (s : St) : (runE es l s).ss.map Prod.fst = s.ss.map Prod.fst := by
  induction l generalizing s with
  | nil => rfl
  | cons a l ih =>
    show (runE es l (stepE (eAt es a) s)).ss.map Prod.fst = _
    rw [ih, step_names]
theorem Turn.keepE {K : PySem.W.Frag} {D : Addr} {H : Hp} {o : Option PyData} {Nx : Hp → Prop} (t : Turn K D H o Nx) {y : V} {d : PyData} {H4 : Hp} (e : o = some d) (x : Ext H H4) (h : Dp K (Off D H4) y d) : ∃ acc, H4 D = some (.lst acc) ∧ acc.length < sizeLine ∧ Nx (upd H4 D (.lst (acc ++ [y]))) := by
  obtain ⟨acc, ha⟩ := t.has
  exact t.keep e (Ext.off x) ((x _ _ ha).trans ha.symm) h
theorem dps_bls {K : PySem.W.Frag} {H : Hp} : ∀ {acc : List V} {bs : List Bool}, DpAll K H acc (bs.map PyData.bool) → acc = bs.map V.bl
  | _, [], .nil => rfl
  | _, b :: bs, .cons (.bl _) q => by
    rw [dps_bls q]
    rfl
theorem oI_inj {a b : Option Int} (h : oI a = oI b) : a = b := by
  cases a <;> cases b <;> simp [oI] at h ⊢
  exact h
theorem edD_inj {e f : Ed} (h : edD e = edD f) : e = f := by
  have h := PyData.tuple.inj h
  cases e with
  | «at» b n k =>
    cases f with
    | «at» b' n' k' =>
      simp only [edL, List.cons.injEq, PyData.str.injEq, PyData.int.injEq, and_true, uw_inj] at h
      rw [h.1, h.2.1, h.2.2]
    | price g b' o => simp [edL] at h
  | price g b o =>
    cases f with
    | «at» b' n' k' => simp [edL] at h
    | price g' b' o' =>
      simp only [edL, List.cons.injEq, PyData.str.injEq, PyData.int.injEq, and_true, true_and, wd_iff, Int.natCast_inj] at h
      rw [h.1, h.2.1, oI_inj h.2.2]
theorem flat_n (l : List Nat) : (nV l).all flatV = true := by
  rw [List.all_eq_true]
  intro x hx
  obtain ⟨k, _, rfl⟩ := List.mem_map.mp hx
  rfl
theorem inV_n (a : Nat) (l : List Nat) : inV (.int (a : Nat)) (nV l) = decide (a ∈ l) := by
  have e : nV l = (l.map fun n : Nat => (n : Int)).map V.int := by
    unfold nV
    rw [List.map_map]
    rfl
  rw [e, inV_ints]
  refine decide_eq_decide.mpr ⟨fun h => ?_, fun h => List.mem_map.mpr ⟨a, h, rfl⟩⟩
  obtain ⟨b, hb, e⟩ := List.mem_map.mp h
  rw [← Int.natCast_inj.mp e]
  exact hb
theorem nth_n {l : List Nat} {i : Nat} {x : V} (h : (nV l)[i]? = some x) : ∃ a, l[i]? = some a ∧ x = .int (a : Nat) := by
  unfold nV at h
  rw [List.getElem?_map] at h
  obtain ⟨a, ha, rfl⟩ := Option.map_eq_some_iff.mp h
  exact ⟨a, ha, rfl⟩
theorem nD_sq {K : PySem.W.Frag} {H : Hp} {x : V} {l : List Nat} (h : Dp K H x (nD l)) : ∃ a, x = .ref a ∧ SqT K H a (nV l) := by
  obtain ⟨a, xs, rfl, sx, ax⟩ := h.tupI
  obtain rfl := dps_nI ax
  exact ⟨a, rfl, sx⟩
theorem nV_len (l : List Nat) : (nV l).length = l.length := List.length_map _
theorem eAt_get {K : PySem.W.Frag} {H : Hp} {ms : List V} {es : List Ed} {a : Nat} (h : DpAll K H ms (es.map edD)) (ha : a < es.length) : ∃ v, ms[a]? = some v ∧ Dp K H v (edD (eAt es a)) := by
  have e : (es.map edD)[a]? = some (edD (eAt es a)) := by
    rw [List.getElem?_map, List.getElem?_eq_getElem ha]
    unfold eAt
    rw [List.getD_eq_getElem?_getD, List.getElem?_eq_getElem ha]
    rfl
  exact h.at e
theorem eAt_mem {es : List Ed} {a : Nat} (ha : a < es.length) : eAt es a ∈ es := by
  unfold eAt
  rw [List.getD_eq_getElem?_getD, List.getElem?_eq_getElem ha]
  exact List.getElem_mem ha
section
variable {P : Program} {w : World} {K : PySem.W.Frag} {mg : PySem.Str → Option Value} {base : Heap}
theorem sc_counts : FnScope ["menu", "chosen", "at", "one", "two"] ["menu", "chosen"] (defScope s_counts) := ⟨rfl, rfl, rfl, by decide +kernel, rfl, by decide +kernel, by decide +kernel⟩
theorem c_counts (T : Txt K mg) : C8.Cal P w K mg base 2 "counts" (spCounts K) [] := by
  obtain ⟨fd, F⟩ := T.f_counts
  refine calN F T.g_counts sc_counts (F.bindsN fun _ _ _ _ _ _ us hl => match us, hl with | [_, _], _ => rfl) len2 (fun cdv A outer s H vs Q E hr h => ?_)
  refine ⟨_, (pss_cons (ps_for PassesOwn.never rfl (pi_enumA (by rfl) T.b_enumerate (pa_cons (pv 1) pa_nil)) (pg_tup (by rfl) (pgs_cons (pg_name (i := 2) sc_counts.nd rfl (by first | exact Or.inl rfl | exact Or.inr rfl)) (pgs_cons (pg_name (i := 3) sc_counts.nd rfl (by first | exact Or.inl rfl | exact Or.inr rfl)) pgs_nil)))
      (pss_one (ps_if (pt_val (pe_callB (cr_any rfl) (by rfl) T.b_any (by decide +kernel) (pa_cons (pe_lc (own := [("two", 4)]) (g := gName 4) (tt := tYes) rfl sc_counts.nd (pi_tup (pe_slice sl_tupA (pv 1) (po_some (pe_op op_add (pv 2) pe_int)) po_none)) (blkOk_by (own := [("two", 4)]) (N := ["menu", "chosen", "at", "one", "two"]) (sc := defScope s_counts) (by decide +kernel)) (fun _ _ _ _ _ => pg_name (i := 4) sc_counts.nd rfl (by first | exact Or.inl rfl | exact Or.inr rfl)) (fun _ _ _ _ _ => pts_nil) (fun _ _ _ _ _ => (C8.pe_c (c_clash T) hr (by decide) rfl (pa_cons (pe_ix (ix_listK K rfl) (pv 0) (pv 3) (fun _ _ => rfl)) (pa_cons (pe_ix (ix_listK K rfl) (pv 0) (pv 4) (fun _ _ => rfl)) pa_nil))))) pa_nil))) (pss_one (ps_ret pe_bl))
      pss_nil)))
      (pss_one (ps_ret pe_bl))), ?_⟩
  -- slots: 0:menu 1:chosen 2:at 3:one 4:two
  obtain ⟨x, y, rfl, es, l, dm, dc, ok, lt, ln, q⟩ := h
  obtain ⟨pm, ms, rfl, sm, am⟩ := dm.lstI
  obtain ⟨pc, rfl, sc⟩ := nD_sq dc
  have lin : 2000 < sizeLine := by rw [sizeLine_eq]; omega
  refine ⟨_, rfl, pc, rfl, for_enumA (.inr sc) Ext.rfl' (fun i σ H' => Ext H H' ∧ (∃ v1 v2 v3, σ = [some (.ref pm), some (.ref pc), v1, v2, v3]) ∧ countsF es l = countsF es (l.drop i)) ⟨Ext.rfl', ⟨_, _, _, rfl⟩, rfl⟩ (fun i σ H' z => z.1) ?_ ?_⟩
  · rintro i v σ H' t hi ⟨x1, ⟨v1, v2, v3, rfl⟩, ec⟩ ht
    obtain ⟨a, ha, rfl⟩ := nth_n hi
    refine ⟨t, _, rfl, .of upd_same, rfl, _, _, rfl, _, _, rfl, rfl, ?_⟩
    have x2 := x1.trans (Ext.upd ht (o := .tup [.int i, .int a]))
    have la := lt a (List.mem_of_getElem? ha)
    have il := (List.getElem?_eq_some_iff.mp ha).1
    obtain ⟨va, hva, dva⟩ := eAt_get am la
    refine ⟨_, rfl, _, rfl, i, 1, rfl, rfl, _, rfl, ?_⟩
    unfold tNoPart
    refine slT_drop (k := i + 1) (sc.ext x2) (dps_n l) fun z H2 x3 dz => ?_
    rw [← List.map_drop] at dz
    obtain ⟨pz, rfl, sz⟩ := nD_sq (l := l.drop (i + 1)) dz
    have x4 := x2.trans x3
    refine ⟨pz, rfl, ⟨_, sz⟩, fun D hD => lcD_tup (fun k => ((l.drop (i + 1))[k]?).map fun b => .bool (clashF (eAt es a) (eAt es b))) hD sz (by rw [nV_len, List.length_drop]; omega) ?_ ?_⟩
    · intro k v H3 Nx hk x5 tn
      obtain ⟨b, hb, rfl⟩ := nth_n hk
      have lb := lt b (List.mem_of_mem_drop (List.mem_of_getElem? hb))
      obtain ⟨vb, hvb, dvb⟩ := eAt_get am lb
      have x6 := x4.trans (x5.trans off_le)
      refine ⟨rfl, _, rfl, _, rfl, pm, _, _, va, rfl, rfl, sm.ext x6, atI_nat hva, _, rfl, _, rfl, pm, _, _, vb, rfl, rfl, sm.ext x6, atI_nat hvb, ?_⟩
      refine ⟨_, _, rfl, eAt es a, eAt es b, dva.ext x6, dvb.ext x6, ok _ (eAt_mem la), ok _ (eAt_mem lb), fun H4 x7 => ?_⟩
      exact tn.keepE (by rw [hb]; rfl) x7 (.bl _)
    · rintro H3 ⟨acc, x5, hacc, dp⟩
      rw [nV_len, fm_map, show (fun b => PyData.bool (clashF (eAt es a) (eAt es b))) = PyData.bool ∘ (fun b => clashF (eAt es a) (eAt es b)) from rfl, ← List.map_map] at dp
      obtain rfl := dps_bls dp
      have x6 := x4.trans (x5.trans off_le)
      refine ⟨D, _, rfl, .of hacc, _, rfl, ?_⟩
      rw [counts_drop ha] at ec
      have ea : ((l.drop (i + 1)).map fun b => clashF (eAt es a) (eAt es b)).any id = (l.drop (i + 1)).any fun b => clashF (eAt es a) (eAt es b) := by
        rw [List.any_map]
        rfl
      rw [ea]
      cases hb : (l.drop (i + 1)).any fun b => clashF (eAt es a) (eAt es b) with
      | true =>
        rw [hb] at ec
        have z := q H3 x6
        rw [ec] at z
        exact iteT z
      | false =>
        rw [hb] at ec
        exact iteF ⟨x6, ⟨_, _, _, rfl⟩, ec⟩
  · rintro σ H' ⟨x1, ⟨v1, v2, v3, rfl⟩, ec⟩
    rw [nV_len, List.drop_length] at ec
    have z := q H' x1
    rw [ec] at z
    exact z
theorem sc_behind : FnScope ["task", "menu", "chosen", "number"] ["task", "menu", "chosen"] (defScope s_behind) := ⟨rfl, rfl, rfl, by decide +kernel, rfl, by decide +kernel, by decide +kernel⟩
theorem c_behind (T : Txt K mg) : C8.Cal P w K mg base 10 "behind" (spBehind K) [] := by
  obtain ⟨fd, F⟩ := T.f_behind
  refine calN F T.g_behind sc_behind (F.bindsN fun _ _ _ _ _ _ us hl => match us, hl with | [_, _, _], _ => rfl) len3 (fun cdv A outer s H vs Q E hr h => ?_)
  refine ⟨_, (pss_cons (ps_for PassesOwn.never rfl (pi_tup (pv 2)) (pg_name (i := 3) sc_behind.nd rfl (by first | exact Or.inl rfl | exact Or.inr rfl))
      (pss_one (ps_set (i := 0) sc_behind.nd rfl (by first | exact Or.inl rfl | exact Or.inr rfl) (C8.pe_c (c_edited T) hr (by decide) rfl (pa_cons (pv 0) (pa_cons (pe_ix ix_list (pv 1) (pv 3) (fun _ _ => rfl)) pa_nil))))))
      (pss_one (ps_ret (pv 0)))), ?_⟩
  -- slots: 0:task 1:menu 2:chosen 3:number
  obtain ⟨x, y, z, rfl, W, s, es, l, ht, dm, dc, ok, lt, q⟩ := h
  obtain ⟨pm, ms, rfl, sm, am⟩ := id dm.lstI
  obtain ⟨pc, rfl, sc⟩ := nD_sq dc
  refine ⟨_, rfl, pc, rfl, ⟨_, sc⟩, for_tup (K := K) (xs := nV l) (fun i σ H' => Ext H H' ∧ (∃ x' v, σ = [some x', some (.ref pm), some (.ref pc), v] ∧ IsT K H' x' W (runE es (l.take i) s))) ⟨Ext.rfl', _, _, rfl, ht⟩ (fun i σ H' _ z => sc.ext z.1) ?_ ?_⟩
  · rintro i v σ H' hi ⟨x1, x', v', rfl, ht'⟩
    obtain ⟨a, ha, rfl⟩ := nth_n hi
    have la := lt a (List.mem_of_getElem? ha)
    obtain ⟨v, hv, dv⟩ := eAt_get am la
    have hat : atI ms (a : Nat) = some v := by rw [atI_nat]; exact hv
    refine ⟨_, rfl, _, rfl, _, rfl, pm, _, _, v, rfl, rfl, sm.ext x1, hat, ?_⟩
    refine ⟨_, _, rfl, W, _, _, ht', dv.ext x1, ?_, fun x'' H2 x2 t2 => ⟨x1.trans x2, x'', _, rfl, ?_⟩⟩
    · rw [run_names]
      exact ok _ (eAt_mem la)
    · unfold runE at t2 ⊢
      rw [List.take_add_one, ha, List.foldl_append]
      exact t2
  · rintro σ H' ⟨x1, x', v', rfl, ht'⟩
    rw [nV_len, List.take_length] at ht'
    exact ⟨_, rfl, q _ _ x1 ht'⟩
theorem sc_check_menu : FnScope ["task", "menu", "edit", "index"] ["task", "menu"] (defScope s_check_menu) := ⟨rfl, rfl, rfl, by decide +kernel, rfl, by decide +kernel, by decide +kernel⟩
theorem c_check_menu (T : Txt K mg) : C8.Cal P w K mg base 10 "check_menu" (spCheckMenu K) [] := by
  obtain ⟨fd, F⟩ := T.f_check_menu
  refine calN F T.g_check_menu sc_check_menu (F.bindsN fun _ _ _ _ _ _ us hl => match us, hl with | [_, _], _ => rfl) len2 (fun cdv A outer s H vs Q E hr h => ?_)
  refine ⟨_, (pss_cons (ps_if (pt_cmpR op_gt (pe_callB call_len (by rfl) T.b_len (by decide +kernel) (pa_cons (pv 1) pa_nil)) (C8.pe_gc rfl T.i_MOST_EDITS) (nomark _)) (pss_one ps_never)
      pss_nil)
      (pss_cons (ps_for PassesOwn.never rfl (pi_list (pv 1)) (pg_name (i := 2) sc_check_menu.nd rfl (by first | exact Or.inl rfl | exact Or.inr rfl))
      (pss_one (ps_expr (C8.pe_c (c_edited T) hr (by decide) rfl (pa_cons (pv 0) (pa_cons (pv 2) pa_nil))))))
      (pss_one (ps_for PassesOwn.never rfl (pi_enumA (by rfl) T.b_enumerate (pa_cons (pv 1) pa_nil)) (pg_tup (by rfl) (pgs_cons (pg_name (i := 3) sc_check_menu.nd rfl (by first | exact Or.inl rfl | exact Or.inr rfl)) (pgs_cons (pg_name (i := 2) sc_check_menu.nd rfl (by first | exact Or.inl rfl | exact Or.inr rfl)) pgs_nil)))
      (pss_one (ps_if (pt_cmpR (op_inD (hu65 hr)) (pv 2) (pe_slice sl_list (pv 1) po_none (po_some (pv 3))) (by rfl)) (pss_one ps_never)
      pss_nil)))))), ?_⟩
  -- slots: 0:task 1:menu 2:edit 3:index
  obtain ⟨x, y, rfl, W, s, es, ht, dm, ok, ln, nd, q⟩ := h
  obtain ⟨pm, ms, rfl, sm, am⟩ := id dm.lstI
  have lin : 2000 < sizeLine := by rw [sizeLine_eq]; omega
  have lms : ms.length = es.length := by rw [am.len, List.length_map]
  refine ⟨_, rfl, _, _, rfl, .inl ⟨_, sm, rfl⟩, _, 6, rfl, rfl, false, congrArg V.bl (decide_eq_false (by omega)), iteF ?_⟩
  refine ⟨_, rfl, pm, rfl, ⟨_, sm⟩, for_list (K := K) (xs := ms) (fun i σ H' => Ext H H' ∧ ∃ v2 v3, σ = [some x, some (.ref pm), v2, v3]) ⟨Ext.rfl', _, _, rfl⟩ (fun i σ H' _ z => sm.ext z.1) ?_ ?_⟩
  · rintro i v σ H' hi ⟨x1, v2, v3, rfl⟩
    obtain ⟨d, hd, dv⟩ := am.get hi
    rw [List.getElem?_map] at hd
    obtain ⟨e, he, rfl⟩ := Option.map_eq_some_iff.mp hd
    exact ⟨_, rfl, _, rfl, _, _, rfl, W, s, e, ht.ext x1, dv.ext x1, (ok e (List.mem_of_getElem? he)).1, fun x' H2 x2 _ => ⟨x1.trans x2, _, _, rfl⟩⟩
  · rintro σ H' ⟨x1, v2, v3, rfl⟩
    refine ⟨_, rfl, pm, rfl, for_enumA (.inl sm) x1 (fun i σ H' => Ext H H' ∧ ∃ v2 v3, σ = [some x, some (.ref pm), v2, v3]) ⟨x1, _, _, rfl⟩ (fun i σ H' z => z.1) ?_ ?_⟩
    · rintro i v σ H' t hi ⟨x1, v2, v3, rfl⟩ ht
      obtain ⟨d, hd, dv⟩ := am.get hi
      rw [List.getElem?_map] at hd
      obtain ⟨e, he, rfl⟩ := Option.map_eq_some_iff.mp hd
      have x2 := x1.trans (Ext.upd ht (o := .tup [.int i, v]))
      refine ⟨t, _, rfl, .of upd_same, rfl, _, _, rfl, _, _, rfl, rfl, ?_⟩
      refine ⟨_, rfl, _, rfl, _, rfl, i, rfl, slL_take (sm.ext x2) i fun p1 hp1 => ?_⟩
      have x3 := Ext.upd hp1 (o := .lst (ms.take i))
      have hm : e ∈ es := List.mem_of_getElem? he
      have shL : SeqAt.shaped (.list ((es.map edD).take i)) = true := (shp.lst (k := 1) fun d hd => by
        obtain ⟨e', he', rfl⟩ := List.mem_map.mp (List.mem_of_mem_take hd)
        exact shpE e' (ok e' he').2).ed (by decide)
      refine ⟨edD e, (es.map edD).take i, dv.ext (x2.trans x3), .lst (.of upd_same) ((am.take i).ext (x2.trans x3)), (shpE e (ok e hm).2).ed (by decide), shL, false, congrArg V.bl ?_, iteF ⟨x2.trans x3, _, _, rfl⟩⟩
      rw [List.any_eq_false, ← List.map_take]
      intro z hz ev
      obtain ⟨e', he', rfl⟩ := List.mem_map.mp hz
      have := (eqv_iff _ _ (nbT (nb_edL e')) (nbT (nb_edL e))).mp ev
      rw [edD_inj this] at he'
      exact nodup_take nd he he'
    · rintro σ H' ⟨x1, v2, v3, rfl⟩
      exact q _ x1
theorem sc_holds_one : FnScope ["found", "chosen", "number", "less"] ["found", "chosen"] (defScope s_holds_one) := ⟨rfl, rfl, rfl, by decide +kernel, rfl, by decide +kernel, by decide +kernel⟩
theorem c_holds_one (T : Txt K mg) : C8.Cal P w K mg base 1 "holds_one" (spHolds K) [] := by
  obtain ⟨fd, F⟩ := T.f_holds_one
  refine calN F T.g_holds_one sc_holds_one (F.bindsN fun _ _ _ _ _ _ us hl => match us, hl with | [_, _], _ => rfl) len2 (fun cdv A outer s H vs Q E hr h => ?_)
  refine ⟨_, (pss_one (ps_ret (pe_callB (cr_any rfl) (by rfl) T.b_any (by decide +kernel) (pa_cons (pe_lc (own := [("less", 3)]) (g := gName 3) (tt := tYes) rfl sc_holds_one.nd (pi_list (pv 0)) (blkOk_by (own := [("less", 3)]) (N := ["found", "chosen", "number", "less"]) (sc := defScope s_holds_one) (by decide +kernel)) (fun _ _ _ _ _ => pg_name (i := 3) sc_holds_one.nd rfl (by first | exact Or.inl rfl | exact Or.inr rfl)) (fun _ _ _ _ _ => pts_nil) (fun _ _ _ _ _ => (pe_callB (cr_allK K rfl rfl) (by rfl) T.b_all (by decide +kernel) (pa_cons (pe_lc (own := [("number", 2)]) (g := gName 2) (tt := tYes) rfl sc_holds_one.nd (pi_tupK K rfl (pv 3)) (blkOk_by (own := [("number", 2)]) (N := ["found", "chosen", "number", "less"]) (sc := _) (by rfl)) (fun _ _ _ _ _ => pg_name (i := 2) sc_holds_one.nd rfl (by first | exact Or.inl rfl | exact Or.inr rfl)) (fun _ _ _ _ _ => pts_nil) (fun _ _ _ _ _ => (pe_cmpR (op_inK K rfl) (pv 2) (pv 1) (by rfl)))) pa_nil)))) pa_nil)))), ?_⟩
  -- slots: 0:found 1:chosen 2:number 3:less
  obtain ⟨x, y, rfl, ls, l, dm, dc, ln, lln, lm, q⟩ := h
  obtain ⟨pf, fs, rfl, sf, af⟩ := dm.lstI
  obtain ⟨pc, rfl, sc⟩ := nD_sq dc
  have lin : 2000 < sizeLine := by rw [sizeLine_eq]; omega
  have lfs : fs.length = ls.length := by rw [af.len, List.length_map]
  refine ⟨_, rfl, pf, rfl, ⟨_, sf⟩, fun D hD => lcD_list (K := K) (fun k => (ls[k]?).map fun m => .bool (m.all fun a => decide (a ∈ l))) hD sf (by omega) ?_ ?_⟩
  · intro k v H1 Nx hk x1 tn
    obtain ⟨d, hd, dv⟩ := af.get hk
    rw [List.getElem?_map] at hd
    obtain ⟨m, hm, rfl⟩ := Option.map_eq_some_iff.mp hd
    obtain ⟨pt, rfl, st⟩ := nD_sq dv
    have lmm := lm m (List.mem_of_getElem? hm)
    have y1 := x1.trans off_le
    refine ⟨rfl, _, rfl, pt, rfl, ⟨_, st.ext y1⟩, fun D2 hD2 => lcD_tup (K := K) (fun j => (m[j]?).map fun a => .bool (decide (a ∈ l))) hD2 (st.ext y1) (by rw [nV_len]; omega) ?_ ?_⟩
    · intro j v H2 Nx2 hj x2 tn2
      obtain ⟨a, ha, rfl⟩ := nth_n hj
      refine ⟨rfl, _, rfl, _, rfl, pc, _, rfl, .inr (sc.ext (y1.trans (x2.trans off_le))), rfl, flat_n _, ?_⟩
      show ∃ acc, H2 D2 = some (.lst acc) ∧ acc.length < sizeLine ∧ Nx2 (upd H2 D2 (.lst (acc ++ [.bl (inV (.int (a : Nat)) (nV l))])))
      rw [inV_n]
      exact tn2.keep0 (by rw [ha]; rfl) (.bl _)
    · rintro H2 ⟨acc, x2, hacc, dp⟩
      rw [nV_len, fm_map, show (fun a => PyData.bool (decide (a ∈ l))) = PyData.bool ∘ (fun a => decide (a ∈ l)) from rfl, ← List.map_map] at dp
      obtain rfl := dps_bls dp
      refine ⟨D2, _, rfl, .of hacc, ?_⟩
      have ea : (m.map fun a => decide (a ∈ l)).all id = m.all fun a => decide (a ∈ l) := by
        rw [List.all_map]
        rfl
      rw [ea]
      exact tn.keepE (by rw [hm]; rfl) (x2.trans off_le) (.bl _)
  · rintro H1 ⟨acc, x1, hacc, dp⟩
    rw [lfs, fm_map, show (fun m => PyData.bool (List.all m fun a => decide (a ∈ l))) = PyData.bool ∘ (fun m => List.all m fun a => decide (a ∈ l)) from rfl, ← List.map_map] at dp
    obtain rfl := dps_bls dp
    refine ⟨D, _, rfl, .of hacc, ?_⟩
    have ea : (ls.map fun m => m.all fun a => decide (a ∈ l)).any id = holdsF ls l := by
      rw [List.any_map]
      rfl
    rw [ea]
    exact q _ (x1.trans off_le)
end
end Sv
namespace Sv
open PySem PySem.Spec PyProof.Rows L2
/-! ### mending -/
def stepM (es : List Ed) (tf : List Nat → Option Int) (bound : Int) (found : List (List Nat)) (l : List Nat) : List (List Nat) :=
  if (!countsF es l || holdsF found l) = true then found else match tf l with
    | some c => if c ≤ bound then found ++ [l] else found
    | none => found
def setsF (n : Nat) (k : Nat) : List (List Nat) := (List.range k).flatMap fun sz => allS n sz 0
def mendF (es : List Ed) (tf : List Nat → Option Int) (bound : Int) : List (List Nat) := (setsF es.length (es.length + 1)).foldl (stepM es tf bound) []
def spMending (K : PySem.W.Frag) : Sp := sp3 fun x y z H Q => ∃ W s, ∃ (es : List Ed) (a : Addr) (xs : List V) (bound : Int) (tf : List Nat → Option Int), IsT K H x W s ∧ y = .ref a ∧ (SqL K H a xs ∨ SqT K H a xs) ∧ DpAll K H xs (es.map edD) ∧ z = .int bound ∧
  (∀ e ∈ es, OkE W (s.ss.map Prod.fst) e ∧ OkS e) ∧ es.length ≤ 6 ∧ es.Nodup ∧ (∀ l ts c, (∀ a ∈ l, a < es.length) → SEq ts (runE es l s).ss → SsOk W.n ts → TotC W ts (runE es l s).sv (runE es l s).bk c → c = tf l) ∧
  ∀ t H', Ext H H' → Dp K H' (.ref t) (.tuple ((mendF es tf bound).map nD)) → Q (.ref t) H'
theorem stepM_len (es : List Ed) (tf : List Nat → Option Int) (bound : Int) (L : List (List Nat)) : ∀ found : List (List Nat), (L.foldl (stepM es tf bound) found).length ≤ found.length + L.length := by
  induction L with
  | nil => intro found; exact Nat.le_refl _
  | cons l L ih =>
    intro found
    have h1 := ih (stepM es tf bound found l)
    have h2 : (stepM es tf bound found l).length ≤ found.length + 1 := by
      unfold stepM
      split
      · omega
      · split
        · split
          · rw [List.length_append, List.length_singleton]
            omega
          · omega
        · omega
    rw [List.foldl_cons, List.length_cons]
    omega
theorem stepM_mem (es : List Ed) (tf : List Nat → Option Int) (bound : Int) (P : List Nat → Prop) (L : List (List Nat)) : ∀ found : List (List Nat), (∀ l ∈ found, P l) → (∀ l ∈ L, P l) → ∀ l ∈ L.foldl (stepM es tf bound) found, P l := by
  induction L with
  | nil => intro found h _; exact h
  | cons x L ih =>
    intro found h1 h2
    rw [List.foldl_cons]
    refine ih _ ?_ fun l hl => h2 l (List.mem_cons_of_mem _ hl)
    unfold stepM
    split
    · exact h1
    · split
      · split
        · intro l hl
          rcases List.mem_append.mp hl with hl | hl
          · exact h1 l hl
          · rw [List.mem_singleton.mp hl]
            exact h2 x List.mem_cons_self
        · exact h1
      · exact h1
theorem sets_len : ∀ n, n ≤ 6 → (setsF n (n + 1)).length ≤ 64 := by decide +kernel
theorem sets_lt : ∀ n, n ≤ 6 → ∀ l ∈ setsF n (n + 1), ∀ a ∈ l, a < n := by decide +kernel
theorem sets_6 : ∀ n, n ≤ 6 → ∀ l ∈ setsF n (n + 1), l.length ≤ 6 := by decide +kernel
theorem sets_len' : ∀ n, n ≤ 6 → ∀ i, i ≤ 6 → (setsF n i).length ≤ 64 := by decide +kernel
theorem sets_6' : ∀ n, n ≤ 6 → ∀ i, i ≤ 6 → ∀ l ∈ setsF n i, l.length ≤ 6 := by decide +kernel
theorem allS_6 : ∀ n, n ≤ 6 → ∀ i, i ≤ 6 → ∀ l ∈ allS n i 0, l.length ≤ 6 := by decide +kernel
theorem tu_off0 {F : Addr} {H : Hp} {l : List V} (h : H F = some (.lst l)) : Tu H (Off F H) := fun a xs r => by
  have n : ∀ u, H a = some u → u ≠ .lst l → a ≠ F := fun u e n z => by
    rw [z, h] at e
    exact n (Option.some.inj e).symm
  rcases r with r | ⟨o, r⟩
  · exact .inl (by rw [off_ne (n _ r (by intro z; cases z))]; exact r)
  · exact .inr ⟨o, by rw [off_ne (n _ r (by intro z; cases z))]; exact r⟩
section
variable {P : Program} {w : World} {K : PySem.W.Frag} {mg : PySem.Str → Option Value} {base : Heap}
theorem sc_mending : FnScope ["task", "menu", "bound", "kept", "edit", "found", "size", "chosen", "total"] ["task", "menu", "bound"] (defScope s_mending) := ⟨rfl, rfl, rfl, by decide +kernel, rfl, by decide +kernel, by decide +kernel⟩
theorem c_mending (T : Txt K mg) : C8.Cal P w K mg base 11 "mending" (spMending K) [] := by
  obtain ⟨fd, F⟩ := T.f_mending
  refine calN F T.g_mending sc_mending (F.bindsN fun _ _ _ _ _ _ us hl => match us, hl with | [_, _, _], _ => rfl) len3 (fun cdv A outer s H vs Q E hr h => ?_)
  refine ⟨_, (pss_cons (ps_setLc (i := 3) (own := [("edit", 4)]) (g := gName 4) (tt := tYes) rfl sc_mending.nd rfl rfl (sw_true rfl rfl rfl (by decide +kernel)) (pi_any (own_it T) (hr.mono (by decide)) (pv 1)) (blkOk_by (own := [("edit", 4)]) (N := ["task", "menu", "bound", "kept", "edit", "found", "size", "chosen", "total"]) (sc := defScope s_mending) (by decide +kernel)) (fun _ _ _ _ _ => pg_name (i := 4) sc_mending.nd rfl (by first | exact Or.inl rfl | exact Or.inr rfl)) (fun _ _ _ _ _ => pts_nil) (fun _ _ _ _ _ => (pe_callTy (call_tupleK K rfl) (by rfl) T.b_tuple (by decide +kernel) (pa_cons (pv 4) pa_nil))))
      (pss_cons (ps_expr (C8.pe_c (c_check_menu T) hr (by decide) rfl (pa_cons (pv 0) (pa_cons (pv 3) pa_nil))))
      (pss_cons (ps_set (i := 5) sc_mending.nd rfl (by first | exact Or.inl rfl | exact Or.inr rfl) (pe_lst pa_nil))
      (pss_cons (ps_for PassesOwn.never rfl (pi_range1 (by rfl) T.b_range (pa_cons (pe_op op_add (pe_callB call_len (by rfl) T.b_len (by decide +kernel) (pa_cons (pv 3) pa_nil)) pe_int) pa_nil)) (pg_name (i := 6) sc_mending.nd rfl (by first | exact Or.inl rfl | exact Or.inr rfl))
      (pss_one (ps_for PassesOwn.never rfl (pi_list (C8.pe_c (c_all_sets T 6 [V.int 0] (.inr rfl)) hr (by decide) rfl (pa_cons (pe_callB call_len (by rfl) T.b_len (by decide +kernel) (pa_cons (pv 3) pa_nil)) (pa_cons (pv 6) pa_nil)))) (pg_name (i := 7) sc_mending.nd rfl (by first | exact Or.inl rfl | exact Or.inr rfl))
      (pss_cons (ps_if (PW.pt (pw_or (pt_not (pt_val (C8.pe_c (c_counts T) hr (by decide) rfl (pa_cons (pv 3) (pa_cons (pv 7) pa_nil))))) (pw_or1 (pt_val (C8.pe_c (c_holds_one T) hr (by decide) rfl (pa_cons (pv 5) (pa_cons (pv 7) pa_nil))))))) (pss_one ps_continue)
      pss_nil)
      (pss_cons (ps_set (i := 8) sc_mending.nd rfl (by first | exact Or.inl rfl | exact Or.inr rfl) (C8.pe_mt0 (mt_Task_total T) hr (by decide) (C8.pe_c (c_behind T) hr (by decide) rfl (pa_cons (pv 0) (pa_cons (pv 3) (pa_cons (pv 7) pa_nil))))))
      (pss_one (ps_if (PW.pt (pw_and (pt_cmpR op_notN (pv 8) pe_non (nomark _)) (pw_and1 (pt_cmpR op_le (pv 8) (pv 2) (nomark _))))) (pss_one (ps_expr (pe_bm PySem.F.plainAttrs_list PySem.F.slot_list_append PySem.F.type_list_append mt_append (pv 5) (pa_cons (pv 7) pa_nil))))
      pss_nil)))))))
      (pss_one (ps_ret (pe_callTy call_tuple_of (by rfl) T.b_tuple (by decide +kernel) (pa_cons (pv 5) pa_nil)))))))), ?_⟩
  -- slots: 0:task 1:menu 2:bound 3:kept 4:edit 5:found 6:size 7:chosen 8:total
  obtain ⟨x, y, z, rfl, W, s, es, a, xs, bound, tf, ht, rfl, sa, al, rfl, ok, ln, nd, tfs, q⟩ := h
  have lin : 2000 < sizeLine := by rw [sizeLine_eq]; omega
  have lxs : xs.length = es.length := by rw [al.len, List.length_map]
  obtain ⟨J, hw⟩ : ∃ J, Wk (cLot K) "places" K H a xs J := sa.elim (fun z => ⟨_, .l z⟩) fun z => ⟨_, .t z⟩
  refine ⟨_, rfl, a, xs, J, rfl, hw, fun D hD => lcD_any hw (fun i => (es[i]?).map edD) hD (by omega) ?_ ?_⟩
  · intro i x' H' Nx hi x1 tn
    obtain ⟨d, hd, dv⟩ := al.get hi
    rw [List.getElem?_map] at hd
    obtain ⟨e, he, rfl⟩ := Option.map_eq_some_iff.mp hd
    obtain ⟨pe, ys, rfl, sy, ay⟩ := dv.tupI
    exact ⟨rfl, _, rfl, pe, _, rfl, .inr ⟨sy.ext (x1.trans off_le), tn.keep0 (d := edD e) (by rw [he]; rfl) (.tup (sy.ext x1) (ay.ext x1))⟩⟩
  · intro H1 md
    rw [lxs, fm_map] at md
    have dk := md.dp
    have x1 := md.ext1
    refine ⟨_, rfl, _, rfl, _, _, rfl, W, s, es, ht.ext x1, dk, ok, ln, nd, fun H2 x2 => ⟨Nat.zero_le _, fun F hF => ?_⟩⟩
    have x12 := x1.trans x2
    have dk2 := dk.ext x2
    have ht2 := ht.ext x12
    obtain ⟨_, ks, e1, sk, ak⟩ := dk2.lstI
    cases e1
    have lks : ks.length = es.length := by rw [ak.len, List.length_map]
    refine ⟨_, rfl, _, _, rfl, .inl ⟨_, sk.ext (Ext.upd hF), rfl⟩, (ks.length : Nat), 1, rfl, rfl, _, rfl, by omega, by omega, ?_⟩
    rw [show ((ks.length : Nat) + 1 : Int).toNat = es.length + 1 by omega]
    refine for_range (fun i σ H' => (∃ v4 v6 v7 v8, σ = [some x, some (.ref a), some (.int bound), some (.ref D), v4, some (.ref F), v6, v7, v8]) ∧ Made K H2 F (((setsF es.length i).foldl (stepM es tf bound) []).map nD) H') ⟨⟨_, _, _, _, rfl⟩, .new hF⟩ ?_ ?_
    · rintro i σ H' hi ⟨⟨v4, v6, v7, v8, rfl⟩, mF⟩
      have x3 := mF.ext1
      refine ⟨_, rfl, _, _, rfl, .inl ⟨_, sk.ext x3, rfl⟩, _, rfl, ?_⟩
      refine ⟨_, _, _, rfl, es.length, i, 0, congrArg V.int (by omega), congrArg V.int (by omega), rfl, by omega, ln, by omega, by omega, fun D1 H3 nD1 x4 dp1 => ?_⟩
      obtain ⟨_, zs, e2, sz, az⟩ := dp1.lstI
      cases e2
      obtain ⟨acc0, _, hacc0, _⟩ := id mF
      have nF : D1 ≠ F := fun z => by
        rw [z, hacc0] at nD1
        cases nD1
      have lzs : zs.length = (allS es.length i 0).length := by rw [az.len, List.length_map]
      have eS : setsF es.length (i + 1) = setsF es.length i ++ allS es.length i 0 := by
        unfold setsF
        rw [List.range_succ, List.flatMap_append, List.flatMap_singleton]
      have mF3 : Made K H2 F (((setsF es.length i).foldl (stepM es tf bound) []).map nD) H3 := by
        obtain ⟨acc, y1, y2, y3⟩ := mF
        exact ⟨acc, y1.trans (Ext.off x4), x4 _ _ y2, y3.ext (Ext.off x4)⟩
      refine ⟨D1, rfl, ⟨_, sz⟩, for_list (K := K) (xs := zs) (fun j σ H' => (∃ v4 v7 v8, σ = [some x, some (.ref a), some (.int bound), some (.ref D), v4, some (.ref F), some (.int (0 + (i : Int))), v7, v8]) ∧ But F H3 H' ∧ Made K H2 F (((allS es.length i 0).take j).foldl (stepM es tf bound) ((setsF es.length i).foldl (stepM es tf bound) []) |>.map nD) H') ⟨⟨_, _, _, rfl⟩, fun _ _ _ h => h, mF3⟩ (fun j σ H' _ z => z.2.1.seq nF sz) ?_ ?_⟩
      · rintro j v σ H' hj ⟨⟨v4, v7, v8, rfl⟩, bF, mj⟩
        obtain ⟨d, hd, dv⟩ := az.get hj
        rw [List.getElem?_map] at hd
        obtain ⟨l, hl, rfl⟩ := Option.map_eq_some_iff.mp hd
        have hacc3 := x4 _ _ hacc0
        have tu : Tu H3 H' := fun c ys r => by
          refine r.imp (fun r => bF _ _ (ne_of r hacc3 (by intro z; cases z)) r) fun ⟨o, r⟩ => ⟨o, bF _ _ (ne_of r hacc3 (by intro z; cases z)) r⟩
        have dl : Dp K H' v (nD l) := Dp.tu tu _ _ (nl_nD l) dv
        have ml : l ∈ allS es.length i 0 := List.mem_of_getElem? hl
        have mS : l ∈ setsF es.length (es.length + 1) := by
          unfold setsF
          exact List.mem_flatMap.mpr ⟨i, List.mem_range.mpr hi, ml⟩
        have l6 := sets_6 _ ln l mS
        have llt := sets_lt _ ln l mS
        have xj := mj.ext1
        have ej : (allS es.length i 0).take (j + 1) = (allS es.length i 0).take j ++ [l] := by
          rw [List.take_add_one, hl]
          rfl
        rw [ej, List.foldl_append]
        show _
        have hmem : ∀ m ∈ ((allS es.length i 0).take j).foldl (stepM es tf bound) ((setsF es.length i).foldl (stepM es tf bound) []), m.length ≤ 6 := by
          refine stepM_mem es tf bound (fun m => m.length ≤ 6) _ _ (stepM_mem es tf bound (fun m => m.length ≤ 6) _ _ (by simp) fun m hm => sets_6' _ ln i (by omega) m hm) fun m hm => allS_6 _ ln i (by omega) m (List.mem_of_mem_take hm)
        have hlen : (((allS es.length i 0).take j).foldl (stepM es tf bound) ((setsF es.length i).foldl (stepM es tf bound) [])).length ≤ 200 := by
          have h1 := stepM_len es tf bound ((allS es.length i 0).take j) ((setsF es.length i).foldl (stepM es tf bound) [])
          have h2 := stepM_len es tf bound (setsF es.length i) []
          have h3 := sets_len' _ ln i (by omega)
          have h4 := allS_bound _ ln i (by omega) 0 (by omega)
          have h5 : ((allS es.length i 0).take j).length ≤ (allS es.length i 0).length := by rw [List.length_take]; omega
          rw [List.length_nil] at h2
          omega
        generalize hfd : ((allS es.length i 0).take j).foldl (stepM es tf bound) ((setsF es.length i).foldl (stepM es tf bound) []) = fd at mj hmem hlen ⊢
        obtain ⟨pt, rfl, st⟩ := nD_sq dl
        refine ⟨_, rfl, _, rfl, _, _, rfl, es, l, dk2.ext xj, dl, fun e he => (ok e he).2, llt, l6, fun H4 x5 => ⟨_, rfl, ?_⟩⟩
        have mF4 : Made K H2 F (fd.map nD) H4 := by
          obtain ⟨acc, y1, y2, y3⟩ := mj
          exact ⟨acc, y1.trans (Ext.off x5), x5 _ _ y2, y3.ext (Ext.off x5)⟩
        have bF4 : But F H3 H4 := bF.trans (.of x5)
        cases hc : countsF es l with
        | false =>
          refine iteT (iteT ⟨⟨_, _, _, rfl⟩, bF4, ?_⟩)
          have e : stepM es tf bound fd l = fd := by
            unfold stepM
            rw [hc]
            rfl
          show Made K H2 F ((stepM es tf bound fd l).map nD) H4
          rw [e]
          exact mF4
        | true =>
          refine iteF ?_
          have dF : Dp K H4 (.ref F) (.list (fd.map nD)) := mF4.dp
          refine ⟨_, rfl, _, rfl, _, _, rfl, fd, l, dF, dl.ext x5, l6, by omega, hmem, fun H5 x6 => ⟨_, rfl, ?_⟩⟩
          have x56 := x5.trans x6
          have mF5 : Made K H2 F (fd.map nD) H5 := by
            obtain ⟨acc, y1, y2, y3⟩ := mj
            exact ⟨acc, y1.trans (Ext.off x56), x56 _ _ y2, y3.ext (Ext.off x56)⟩
          have bF5 : But F H3 H5 := bF.trans (.of x56)
          cases hh : holdsF fd l with
          | true =>
            refine iteT ⟨⟨_, _, _, rfl⟩, bF5, ?_⟩
            have e : stepM es tf bound fd l = fd := by
              unfold stepM
              rw [hc, hh]
              rfl
            show Made K H2 F ((stepM es tf bound fd l).map nD) H5
            rw [e]
            exact mF5
          | false =>
            refine iteF ?_
            have x25 := xj.trans x56
            refine ⟨_, rfl, _, rfl, _, rfl, _, _, _, rfl, W, s, es, l, ht2.ext x25, dk2.ext x25, dl.ext x56, fun e he => (ok e he).1, llt, fun x' H6 x7 ht6 => ?_⟩
            obtain ⟨us, tk6, se6, so6⟩ := ht6.tk
            obtain ⟨p6, dx6, w6, d6, pr6, rfl, hp6, _⟩ := id tk6
            refine ⟨p6, dx6, _, rfl, hp6, rfl, _, rfl, W, us, _, _, tk6, ht6.ok, ht6.pr, so6, se6.asc, fun c H7 x8 tc => ?_⟩
            obtain rfl := tfs l us c llt se6 so6 tc
            have x567 := x56.trans (x7.trans x8)
            have mF7 : Made K H2 F (fd.map nD) H7 := by
              obtain ⟨acc, y1, y2, y3⟩ := mj
              exact ⟨acc, y1.trans (Ext.off x567), x567 _ _ y2, y3.ext (Ext.off x567)⟩
            have bF7 : But F H3 H7 := bF.trans (.of x567)
            have e0 : stepM es tf bound fd l = match tf l with
              | some c => if c ≤ bound then fd ++ [l] else fd
              | none => fd := by
              unfold stepM
              rw [hc, hh]
              rfl
            rw [show [l].foldl (stepM es tf bound) fd = stepM es tf bound fd l from rfl]
            obtain ⟨acc, y1, hacc7, y3⟩ := id mF7
            cases hct : tf l with
            | none =>
              rw [hct] at e0
              rw [e0]
              exact ⟨_, rfl, rfl, false, rfl, iteF ⟨⟨_, _, _, rfl⟩, bF7, mF7⟩⟩
            | some c =>
              refine ⟨_, rfl, rfl, true, rfl, iteT ⟨_, rfl, _, rfl, c, bound, rfl, rfl, _, rfl, ?_⟩⟩
              rw [hct] at e0
              by_cases hcb : c ≤ bound
              · rw [decide_eq_true hcb]
                rw [show stepM es tf bound fd l = fd ++ [l] from e0.trans (if_pos hcb)]
                have lacc : acc.length = fd.length := by rw [y3.len, List.length_map]
                refine iteT ⟨_, rfl, .inl ⟨rfl, _, .of hacc7⟩, _, rfl, F, acc, _, rfl, rfl, hacc7, by omega, ⟨_, _, _, rfl⟩, bF7.trans .put, acc ++ [.ref pt], ?_, upd_same, ?_⟩
                · rw [off_put]
                  exact y1
                · rw [off_put, List.map_append]
                  exact y3.snoc (Dp.tu (tu_off0 hacc7) _ _ (nl_nD l) (dl.ext x567))
              · rw [decide_eq_false hcb]
                rw [show stepM es tf bound fd l = fd from e0.trans (if_neg hcb)]
                exact iteF ⟨⟨_, _, _, rfl⟩, bF7, mF7⟩
      · rintro σ H' ⟨⟨v4, v7, v8, rfl⟩, bF, mj⟩
        refine ⟨⟨_, _, _, _, rfl⟩, ?_⟩
        rw [lzs, List.take_length] at mj
        rw [eS, List.foldl_append]
        exact mj
    · rintro σ H' ⟨⟨v4, v6, v7, v8, rfl⟩, mF⟩
      obtain ⟨acc, x3, hacc, dp⟩ := id mF
      refine ⟨_, rfl, F, acc, rfl, .inl ⟨.of hacc, fun t ht => ?_⟩⟩
      have xx := x3.trans off_le
      exact q t _ (x12.trans (xx.trans (Ext.upd ht))) (.tup (.of upd_same) ((dp.ext off_le).ext (Ext.upd ht)))
end
end Sv
namespace Sv
open PySem PySem.Spec PyProof.Rows L2
/-! ### the law's reckoning, in plain words -/
/-- gates with a save, gates with a back -/
def svG (G : Gt) (L : List Int) (g : Nat) : Bool := !decide ((G.getD g (0, 0)).1 ∈ L) && decide ((G.getD g (0, 0)).2 ∈ L)
def bkG (G : Gt) (L : List Int) (g : Nat) : Bool := decide ((G.getD g (0, 0)).1 ∈ L) && !decide ((G.getD g (0, 0)).2 ∈ L)
def costG (G : Gt) (sv bk : List (Option Int)) (L : List Int) : Option Int :=
  osum (((List.range G.length).filter (svG G L)).map (fun g => sv.getD g none) ++ ((List.range G.length).filter (bkG G L)).map (fun g => bk.getD g none))
theorem oadd_mid (a b c d : Option Int) : oadd (oadd a b) (oadd c d) = oadd (oadd a c) (oadd b d) := by
  cases a <;> cases b <;> cases c <;> cases d <;> simp [oadd] <;> omega
theorem cost_cut {N : ND} {L : List Int} (hs : ∀ k ∈ N.S, k ∈ L) (ho : ¬ (-1 : Int) ∈ L) : cutF N L = costG N.W.G N.sv N.bk L := by
  have e : N.As.filter (crs N L) = (arcsF N.W.G).filter (crs N L) := by
    unfold ND.As
    rw [List.filter_filter]
    refine List.filter_congr fun a _ => ?_
    cases h : crs N L a with
    | false => rfl
    | true =>
      unfold crs at h
      simp only [Bool.and_eq_true, decide_eq_true_eq, Bool.not_eq_true', decide_eq_false_iff_not] at h
      have h1 : ¬ (N.tip a).2 ∈ N.S := fun z => h.2 (hs _ z)
      have h2 : ¬ (N.tip a).1 = -1 := fun z => ho (z ▸ h.1)
      rw [decide_eq_false h1, decide_eq_false h2]
      rfl
  unfold cutF costG
  rw [e]
  unfold arcsF
  generalize N.W.G.length = m
  induction m with
  | zero => rfl
  | succ m ih =>
    rw [List.range_succ, List.flatMap_append, List.filter_append, List.map_append, osum_app, ih, List.flatMap_singleton]
    rw [List.filter_append, List.filter_append, List.map_append, List.map_append, osum_app, osum_app, osum_app, osum_app, oadd_mid]
    congr 1
    rw [← osum_app]
    unfold arcs1 svG bkG crs ND.tip tipF ND.room
    generalize hp : N.W.G.getD m (0, 0) = p
    have hp' : N.W.G[m]?.getD (0, 0) = p := by rw [← List.getD_eq_getElem?_getD]; exact hp
    by_cases e1 : p.1 = p.2
    · rw [if_pos e1]
      by_cases h2 : p.2 ∈ L <;> simp [List.filter_cons, hp', e1, h2]
    · rw [if_neg e1]
      by_cases h1 : p.1 ∈ L <;> by_cases h2 : p.2 ∈ L <;> simp [List.filter_cons, hp', h1, h2]
theorem cost_congr {G : Gt} {sv bk : List (Option Int)} {L M : List Int} (h : ∀ p ∈ G, (p.1 ∈ L ↔ p.1 ∈ M) ∧ (p.2 ∈ L ↔ p.2 ∈ M)) : costG G sv bk L = costG G sv bk M := by
  have e : ∀ g ∈ List.range G.length, svG G L g = svG G M g ∧ bkG G L g = bkG G M g := fun g hg => by
    have hg := List.mem_range.mp hg
    have z := h (G.getD g (0, 0)) (by rw [List.getD_eq_getElem?_getD, List.getElem?_eq_getElem hg]; exact List.getElem_mem hg)
    unfold svG bkG
    rw [decide_eq_decide.mpr z.1, decide_eq_decide.mpr z.2]
    exact ⟨rfl, rfl⟩
  unfold costG
  rw [List.filter_congr fun g hg => (e g hg).1, List.filter_congr fun g hg => (e g hg).2]
def lotsL (U : List Int) : Nat → List (List Int)
  | 0 => [[]]
  | n + 1 => if (n : Int) ∈ U then (lotsL U n).map (· ++ [(n : Int)]) else lotsL U n ++ (lotsL U n).map (· ++ [(n : Int)])
theorem lots_in {U : List Int} : ∀ {n : Nat} {L : List Int}, L ∈ lotsL U n → L.Nodup ∧ (∀ k ∈ L, InR n k) ∧ ∀ k ∈ U, InR n k → k ∈ L
  | 0, L, h => by
    rw [List.mem_singleton.mp h]
    exact ⟨List.nodup_nil, by simp, fun k _ z => by have := z.1; have := z.2; omega⟩
  | n + 1, L, h => by
    have put : ∀ M ∈ lotsL U n, (M ++ [(n : Int)]).Nodup ∧ (∀ k ∈ M ++ [(n : Int)], InR (n + 1 : Nat) k) ∧ ∀ k ∈ U, InR (n + 1 : Nat) k → k ∈ M ++ [(n : Int)] := fun M hM => by
      obtain ⟨a, b, c⟩ := lots_in hM
      refine ⟨?_, fun k hk => ?_, fun k hk z => ?_⟩
      · rw [List.nodup_append]
        refine ⟨a, by simp, fun x hx y hy => ?_⟩
        rw [List.mem_singleton.mp hy]
        have := (b x hx).2
        omega
      · rcases List.mem_append.mp hk with hk | hk
        · have := b k hk
          exact ⟨this.1, by have := this.2; omega⟩
        · rw [List.mem_singleton.mp hk]
          exact ⟨by omega, by omega⟩
      · by_cases q : k = n
        · rw [q]
          exact List.mem_append_right _ (by simp)
        · exact List.mem_append_left _ (c k hk ⟨z.1, by have := z.2; omega⟩)
    unfold lotsL at h
    by_cases q : (n : Int) ∈ U
    · rw [if_pos q] at h
      obtain ⟨M, hM, rfl⟩ := List.mem_map.mp h
      exact put M hM
    · rw [if_neg q] at h
      rcases List.mem_append.mp h with h | h
      · obtain ⟨a, b, c⟩ := lots_in h
        refine ⟨a, fun k hk => ⟨(b k hk).1, by have := (b k hk).2; omega⟩, fun k hk z => ?_⟩
        by_cases q2 : k = n
        · exact absurd (q2 ▸ hk) q
        · exact c k hk ⟨z.1, by have := z.2; omega⟩
      · obtain ⟨M, hM, rfl⟩ := List.mem_map.mp h
        exact put M hM
theorem lots_has {U M : List Int} : ∀ {n : Nat}, (∀ k ∈ U, InR n k → k ∈ M) → ∃ L ∈ lotsL U n, ∀ k, InR n k → (k ∈ L ↔ k ∈ M)
  | 0, _ => ⟨[], by simp [lotsL], fun k z => by have := z.1; have := z.2; omega⟩
  | n + 1, h => by
    obtain ⟨L, hL, e⟩ := lots_has (n := n) fun k hk z => h k hk ⟨z.1, by have := z.2; omega⟩
    have hl := (lots_in hL).2.1
    have ins : (n : Int) ∈ M → ∀ k, InR (n + 1 : Nat) k → (k ∈ L ++ [(n : Int)] ↔ k ∈ M) := fun hn k z => by
      by_cases q : k = n
      · rw [q]
        exact ⟨fun _ => hn, fun _ => List.mem_append_right _ (by simp)⟩
      · rw [List.mem_append, ← e k ⟨z.1, by have := z.2; omega⟩]
        simp [q]
    unfold lotsL
    by_cases q : (n : Int) ∈ U
    · rw [if_pos q]
      exact ⟨_, List.mem_map.mpr ⟨L, hL, rfl⟩, ins (h _ q ⟨by omega, by omega⟩)⟩
    · rw [if_neg q]
      by_cases q2 : (n : Int) ∈ M
      · exact ⟨_, List.mem_append_right _ (List.mem_map.mpr ⟨L, hL, rfl⟩), ins q2⟩
      · refine ⟨L, List.mem_append_left _ hL, fun k z => ?_⟩
        by_cases q3 : k = n
        · rw [q3]
          exact ⟨fun w => by have := (hl _ w).2; omega, fun w => absurd w q2⟩
        · exact e k ⟨z.1, by have := z.2; omega⟩
theorem lots_congr {U V : List Int} (h : ∀ k, k ∈ U ↔ k ∈ V) : ∀ n, lotsL U n = lotsL V n
  | 0 => rfl
  | n + 1 => by
    unfold lotsL
    rw [lots_congr h n]
    by_cases q : (n : Int) ∈ U
    · rw [if_pos q, if_pos ((h _).mp q)]
    · rw [if_neg q, if_neg fun z => q ((h _).mpr z)]
theorem lots_len (U : List Int) : ∀ n, (lotsL U n).length ≤ 2 ^ n
  | 0 => Nat.le_refl _
  | n + 1 => by
    have := lots_len U n
    unfold lotsL
    split
    · rw [List.length_map]
      omega
    · rw [List.length_append, List.length_map]
      omega
def bestS (best c : Option Int) : Option Int := match c with
  | none => best
  | some v => match best with
    | none => some v
    | some b => if v < b then some v else some b
def leastL (G : Gt) (sv bk : List (Option Int)) (U : List Int) (n : Nat) : Option Int := ((lotsL U n).map (costG G sv bk)).foldl bestS none
theorem best_fold : ∀ (cs : List (Option Int)) (b : Option Int), (cs.foldl bestS b = none → b = none ∧ ∀ c ∈ cs, c = none) ∧
    ∀ v, cs.foldl bestS b = some v → (b = some v ∨ some v ∈ cs) ∧ (∀ w, b = some w → v ≤ w) ∧ ∀ w, some w ∈ cs → v ≤ w
  | [], b => ⟨fun h => ⟨h, by simp⟩, fun v h => ⟨.inl h, fun w e => by rw [show b = some v from h] at e; injection e with e; omega, by simp⟩⟩
  | c :: cs, b => by
    obtain ⟨h1, h2⟩ := best_fold cs (bestS b c)
    rw [List.foldl_cons]
    cases c with
    | none =>
      refine ⟨fun h => ⟨(h1 h).1, fun c hc => ?_⟩, fun v h => ?_⟩
      · rcases List.mem_cons.mp hc with rfl | hc
        · rfl
        · exact (h1 h).2 c hc
      · obtain ⟨a, b', d⟩ := h2 v h
        refine ⟨a.imp id (List.mem_cons_of_mem _), b', fun w hw => ?_⟩
        rcases List.mem_cons.mp hw with z | z
        · cases z
        · exact d w z
    | some x =>
      cases b with
      | none =>
        refine ⟨fun h => ?_, fun v h => ?_⟩
        · cases (h1 h).1
        · obtain ⟨a, b', d⟩ := h2 v h
          refine ⟨.inr ?_, (by intro w e; cases e), fun w hw => ?_⟩
          · rcases a with a | a
            · rw [show some x = some v from a]
              exact List.mem_cons_self
            · exact List.mem_cons_of_mem _ a
          · rcases List.mem_cons.mp hw with z | z
            · injection z with z
              exact z ▸ b' x rfl
            · exact d w z
      | some y =>
        by_cases q : x < y
        · have e : bestS (some y) (some x) = some x := by simp [bestS, q]
          rw [e] at h1 h2 ⊢
          refine ⟨fun h => ?_, fun v h => ?_⟩
          · cases (h1 h).1
          · obtain ⟨a, b', d⟩ := h2 v h
            have hx := b' x rfl
            refine ⟨.inr ?_, fun w e => by injection e with e; omega, fun w hw => ?_⟩
            · rcases a with a | a
              · rw [a]
                exact List.mem_cons_self
              · exact List.mem_cons_of_mem _ a
            · rcases List.mem_cons.mp hw with z | z
              · injection z with z
                omega
              · exact d w z
        · have e : bestS (some y) (some x) = some y := by simp [bestS, q]
          rw [e] at h1 h2 ⊢
          refine ⟨fun h => ?_, fun v h => ?_⟩
          · cases (h1 h).1
          · obtain ⟨a, b', d⟩ := h2 v h
            have hy := b' y rfl
            refine ⟨a.imp id (List.mem_cons_of_mem _), b', fun w hw => ?_⟩
            rcases List.mem_cons.mp hw with z | z
            · injection z with z
              omega
            · exact d w z
theorem gate_ends {W : WD} (h : W.Ok) : ∀ p ∈ W.G, (p.1 = -1 ∨ InR W.n p.1) ∧ (p.2 = -1 ∨ InR W.n p.2) := fun p hp => by
  unfold WD.G gatesW at hp
  rcases List.mem_append.mp hp with hp | hp
  · exact ⟨.inr (h.ip p hp).1, .inr (h.ip p hp).2⟩
  · rcases List.mem_cons.mp hp with rfl | hp
    · exact ⟨.inl rfl, .inr h.io⟩
    · obtain ⟨x, hx, rfl⟩ := List.mem_map.mp hp
      exact ⟨.inr (h.ie x hx), .inl rfl⟩
theorem least_law {W : WD} {S : List Int} {sv bk : List (Option Int)} {c : Option Int} (ok : W.Ok) (hS : ∀ k ∈ S, InR W.n k) (h : LeastC (ndOf W S sv bk) c) : c = leastL W.G sv bk S W.n.toNat := by
  have en : ((W.n.toNat : Nat) : Int) = W.n := Int.toNat_of_nonneg (Int.le_of_lt ok.n0)
  have cut : ∀ L ∈ lotsL S W.n.toNat, L.Nodup ∧ (∀ k ∈ S, k ∈ L) ∧ ¬ (-1 : Int) ∈ L ∧ cutF (ndOf W S sv bk) L = costG W.G sv bk L := fun L hL => by
    obtain ⟨a, b, d⟩ := lots_in hL
    rw [en] at b d
    have h1 : ∀ k ∈ S, k ∈ L := fun k hk => d k hk (hS k hk)
    have h2 : ¬ (-1 : Int) ∈ L := fun z => by have := (b _ z).1; omega
    exact ⟨a, h1, h2, cost_cut (N := ndOf W S sv bk) h1 h2⟩
  obtain ⟨f1, f2⟩ := best_fold ((lotsL S W.n.toNat).map (costG W.G sv bk)) none
  rcases h with ⟨rfl, h⟩ | ⟨v, rfl, ⟨L, _, l1, l2, _, lc⟩, least⟩
  · cases e : leastL W.G sv bk S W.n.toNat with
    | none => rfl
    | some v =>
      rcases (f2 v e).1 with z | z
      · cases z
      · obtain ⟨L, hL, eL⟩ := List.mem_map.mp z
        obtain ⟨_, c1, c2, c3⟩ := cut L hL
        rw [← c3, h L c1 c2] at eL
        cases eL
  · obtain ⟨M, hM, eM⟩ := lots_has (U := S) (M := L) (n := W.n.toNat) fun k hk _ => l1 k hk
    rw [en] at eM
    obtain ⟨m1, m2, m3, m4⟩ := cut M hM
    have ec : costG W.G sv bk M = some v := by
      rw [← lc, cost_cut (N := ndOf W S sv bk) l1 l2]
      refine cost_congr fun p hp => ?_
      obtain ⟨a, b⟩ := gate_ends ok p hp
      constructor
      · rcases a with a | a
        · rw [a]
          exact ⟨fun z => absurd z m3, fun z => absurd z l2⟩
        · exact eM _ a
      · rcases b with b | b
        · rw [b]
          exact ⟨fun z => absurd z m3, fun z => absurd z l2⟩
        · exact eM _ b
    have hm : some v ∈ (lotsL S W.n.toNat).map (costG W.G sv bk) := List.mem_map.mpr ⟨M, hM, ec⟩
    cases e : leastL W.G sv bk S W.n.toNat with
    | none => cases (f1 e).2 _ hm
    | some u =>
      obtain ⟨a, _, d⟩ := f2 u e
      have h1 := d v hm
      rcases a with a | a
      · cases a
      · obtain ⟨L', hL', eL'⟩ := List.mem_map.mp a
        obtain ⟨n1, n2, n3, n4⟩ := cut L' hL'
        have h2 := least L' n1 n2 n3 u (n4.trans eL')
        congr 1
        omega
/-- the law's total -/
def totL (W : WD) (ss : SL) (sv bk : List (Option Int)) : Option Int := osum (ss.map fun s => leastL W.G sv bk s.2 W.n.toNat)
theorem osum_perm {α β : Type} [DecidableEq α] (f : α × β → Option Int) : ∀ (a b : List (α × β)), (a.map Prod.fst).Nodup → (b.map Prod.fst).Nodup → (∀ n, n ∈ a.map Prod.fst ↔ n ∈ b.map Prod.fst) →
    (∀ s ∈ a, ∀ t ∈ b, s.1 = t.1 → f s = f t) → osum (a.map f) = osum (b.map f)
  | [], [], _, _, _, _ => rfl
  | [], t :: b, _, _, h, _ => absurd ((h t.1).mpr (by simp)) (by simp)
  | s :: a, b, na, nb, h, e => by
    obtain ⟨t, ht, et⟩ := List.mem_map.mp ((h s.1).mp (by simp))
    obtain ⟨b1, b2, rfl⟩ := List.append_of_mem ht
    rw [List.map_cons, List.nodup_cons] at na
    rw [List.map_append, List.map_cons] at nb
    have nb' := List.nodup_append.mp nb
    obtain ⟨x1, x2, x3⟩ := nb'
    rw [List.nodup_cons] at x2
    have ih := osum_perm f a (b1 ++ b2) na.2 (by
      rw [List.map_append, List.nodup_append]
      exact ⟨x1, x2.2, fun y hy z hz => x3 y hy z (List.mem_cons_of_mem _ hz)⟩) (fun n => by
      have hn := h n
      rw [List.map_cons, List.mem_cons, List.map_append, List.map_cons, List.mem_append, List.mem_cons] at hn
      rw [List.map_append, List.mem_append]
      constructor
      · intro hna
        have ne : n ≠ t.1 := fun z => na.1 (by rw [← et, ← z]; exact hna)
        rcases hn.mp (.inr hna) with z | z | z
        · exact .inl z
        · exact absurd z ne
        · exact .inr z
      · intro hnb
        have ne : n ≠ s.1 := fun z => by
          rw [← et] at z
          rcases hnb with w | w
          · exact x3 n w t.1 List.mem_cons_self z
          · exact x2.1 (z ▸ w)
        rcases hn.mpr (hnb.elim .inl fun z => .inr (.inr z)) with z | z
        · exact absurd z ne
        · exact z) fun u hu v hv => e u (List.mem_cons_of_mem _ hu) v (by
      rcases List.mem_append.mp hv with z | z
      · exact List.mem_append_left _ z
      · exact List.mem_append_right _ (List.mem_cons_of_mem _ z))
    rw [List.map_cons, osum_cons, ih, List.map_append, List.map_append, List.map_cons, osum_app, osum_app, osum_cons, e s List.mem_cons_self t (by simp) et.symm]
    rw [← oadd_assoc, ← oadd_assoc, oadd_comm (f t)]
theorem tot_law {W : WD} {ts ss : SL} {sv bk : List (Option Int)} {c : Option Int} (ok : W.Ok) (seq : SEq ts ss) (ip : ∀ s ∈ ts, ∀ k ∈ s.2, InR W.n k) (h : TotC W ts sv bk c) : c = totL W ss sv bk := by
  obtain ⟨cs, lc, al, rfl⟩ := h
  have e : cs = ts.map fun s => leastL W.G sv bk s.2 W.n.toNat := by
    refine List.ext_getElem? fun i => ?_
    rw [List.getElem?_map]
    rcases Nat.lt_or_ge i ts.length with hi | hi
    · have h1 : ts[i]? = some ts[i] := List.getElem?_eq_getElem hi
      have h2 : cs[i]? = some (cs[i]'(by omega)) := List.getElem?_eq_getElem (by omega)
      rw [h1, h2, Option.map_some]
      congr 1
      exact least_law ok (ip _ (List.getElem_mem hi)) (al i _ _ h1 h2)
    · rw [List.getElem?_eq_none hi, List.getElem?_eq_none (by omega)]
      rfl
  rw [e]
  unfold totL
  refine osum_perm _ ts ss seq.na seq.nb seq.nm fun s hs t ht est => ?_
  show ((lotsL s.2 _).map _).foldl _ _ = ((lotsL t.2 _).map _).foldl _ _
  rw [lots_congr (seq.mm s hs t ht est)]
/-! ### sets -/
def ltN : List Nat → List Nat → Bool
  | _, [] => false
  | [], _ :: _ => true
  | a :: l, b :: m => if a < b then true else if b < a then false else ltN l m
def lessS (a b : List Nat) : Bool := decide (a.length < b.length) || (decide (a.length = b.length) && ltN a b)
def drawnS : Nat → List (List Nat)
  | 0 => [[]]
  | n + 1 => drawnS n ++ (drawnS n).map (· ++ [n])
def insS (found : List (List Nat)) (x : List Nat) : List (List Nat) := found.take (found.filter fun y => lessS y x).length ++ [x] ++ found.drop (found.filter fun y => lessS y x).length
def setsL (n : Nat) : List (List Nat) := (drawnS n).foldl insS []
/-- a list is written out before it is gone on with -/
def outL {α β : Type} : List α → (List α → β) → β
  | [], k => k []
  | x :: l, k => outL l fun l' => k (x :: l')
def outLL {β : Type} : List (List Nat) → (List (List Nat) → β) → β
  | [], k => k []
  | x :: l, k => outL x fun x' => outLL l fun l' => k (x' :: l')
theorem outL_eq {α β : Type} : ∀ (l : List α) (k : List α → β), outL l k = k l
  | [], _ => rfl
  | x :: l, k => outL_eq l _
theorem outLL_eq {β : Type} : ∀ (l : List (List Nat)) (k : List (List Nat) → β), outLL l k = k l
  | [], _ => rfl
  | x :: l, k => (outL_eq x _).trans (outLL_eq l _)
def foldO {β : Type} : List (List Nat) → List (List Nat) → (List (List Nat) → β) → β
  | [], acc, k => k acc
  | x :: l, acc, k => outLL (insS acc x) fun acc' => foldO l acc' k
theorem foldO_eq {β : Type} : ∀ (l acc : List (List Nat)) (k : List (List Nat) → β), foldO l acc k = k (l.foldl insS acc)
  | [], _, _ => rfl
  | x :: l, acc, k => (outLL_eq _ _).trans (foldO_eq l _ k)
theorem sets_eq0 : ∀ n, n ≤ 6 → outLL (drawnS n) (fun d => foldO d [] fun r => decide (r = setsF n (n + 1))) = true := by decide +kernel
theorem sets_eq (n : Nat) (h : n ≤ 6) : setsL n = setsF n (n + 1) := by
  have := sets_eq0 n h
  rw [outLL_eq, foldO_eq] at this
  exact of_decide_eq_true this
def clashL (es : List Ed) (l : List Nat) : Bool := l.any fun a => l.any fun b => decide (a < b) && clashF (eAt es a) (eAt es b)
theorem clash_counts (es : List Ed) : ∀ l : List Nat, l.Pairwise (· < ·) → clashL es l = !countsF es l
  | [], _ => rfl
  | a :: l, h => by
    obtain ⟨h1, h2⟩ := List.pairwise_cons.mp h
    have ih := clash_counts es l h2
    unfold countsF
    rw [Bool.not_and, Bool.not_not, ← ih]
    unfold clashL
    rw [List.any_cons, List.any_cons]
    have e1 : (l.any fun b => decide (a < b) && clashF (eAt es a) (eAt es b)) = l.any fun b => clashF (eAt es a) (eAt es b) := by
      rw [Bool.eq_iff_iff, List.any_eq_true, List.any_eq_true]
      constructor
      · rintro ⟨b, hb, z⟩
        rw [Bool.and_eq_true] at z
        exact ⟨b, hb, z.2⟩
      · rintro ⟨b, hb, z⟩
        exact ⟨b, hb, by rw [decide_eq_true (h1 b hb), z]; rfl⟩
    have e2 : (l.any fun c => (a :: l).any fun b => decide (c < b) && clashF (eAt es c) (eAt es b)) = l.any fun c => l.any fun b => decide (c < b) && clashF (eAt es c) (eAt es b) := by
      rw [Bool.eq_iff_iff, List.any_eq_true, List.any_eq_true]
      constructor
      · rintro ⟨c, hc, z⟩
        refine ⟨c, hc, ?_⟩
        rw [List.any_cons, decide_eq_false (by have := h1 c hc; omega)] at z
        simpa using z
      · rintro ⟨c, hc, z⟩
        refine ⟨c, hc, ?_⟩
        rw [List.any_cons, z, Bool.or_true]
    rw [e1, e2, decide_eq_false (Nat.lt_irrefl a)]
    simp
theorem sets_asc : ∀ n, n ≤ 6 → ∀ l ∈ setsF n (n + 1), l.Pairwise (· < ·) := by decide +kernel
end Sv
namespace Sv
open PySem PySem.Spec PyProof.Rows L2
/-! ### _law_web -/
def ins {α : Type} (l : List α) (i : Nat) (y : α) : List α := l.take i ++ [y] ++ l.drop i
theorem mem_ins {α : Type} {l : List α} {i : Nat} {x y : α} : x ∈ ins l i y ↔ x = y ∨ x ∈ l := by
  unfold ins
  conv => rhs; rw [← List.take_append_drop i l]
  simp only [List.mem_append, List.mem_singleton]
  constructor
  · rintro ((h | h) | h)
    · exact .inr (.inl h)
    · exact .inl h
    · exact .inr (.inr h)
  · rintro (h | h | h)
    · exact .inl (.inr h)
    · exact .inl (.inl h)
    · exact .inr h
theorem nodup_ins {α : Type} {l : List α} {i : Nat} {y : α} (h : l.Nodup) (n : ¬ y ∈ l) : (ins l i y).Nodup := by
  unfold ins
  have e := List.take_append_drop i l
  rw [← e] at h
  obtain ⟨h1, h2, h3⟩ := List.nodup_append.mp h
  rw [List.append_assoc, List.nodup_append]
  refine ⟨h1, ?_, fun a ha b hb => ?_⟩
  · rw [List.singleton_append, List.nodup_cons]
    exact ⟨fun z => n (List.mem_of_mem_drop z), h2⟩
  · rw [List.singleton_append] at hb
    rcases List.mem_cons.mp hb with rfl | hb
    · exact fun z => n (z ▸ List.mem_of_mem_take ha)
    · exact h3 a ha b hb
theorem len_ins {α : Type} (l : List α) (i : Nat) (y : α) : (ins l i y).length = l.length + 1 := by
  unfold ins
  have e := congrArg List.length (List.take_append_drop i l)
  rw [List.length_append] at e
  rw [List.length_append, List.length_append, List.length_singleton]
  omega
theorem map_ins {α β : Type} (f : α → β) (l : List α) (i : Nat) (y : α) : (l.map f).take i ++ [f y] ++ (l.map f).drop i = (ins l i y).map f := by
  unfold ins
  simp
theorem dps_ins {K : PySem.W.Frag} {H : Hp} {vs : List V} {ds : List PyData} {v : V} {d : PyData} (h : DpAll K H vs ds) (q : Dp K H v d) (i : Nat) : DpAll K H (vs.take i ++ [v] ++ vs.drop i) (ins ds i d) := ((h.take i).app (.cons q .nil)).app (h.drop i)
theorem But.putN {p D : Addr} {H H' : Hp} {o : HO} (b : But p H H') (n : H D = none) : But p H (upd H' D o) := fun a u ne e => by
  rw [upd_ne (ne_of_none e n)]
  exact b _ _ ne e
def toldD (n : Int) (ps : Gt) (o : Int) (gs : List Int) : PyData := .tuple [.int n, .list (ps.map eP), .int o, .list (gs.map PyData.int)]
theorem PoolAt.lst {K : PySem.W.Frag} {p : Addr} {H0 : Hp} {k : Int} {H : Hp} (h : PoolAt K p H0 k H) : ∃ l, H p = some (.lst l) := by
  obtain ⟨s, ns, a, b, c, e, bb, h1, h2⟩ := h
  exact ⟨_, h1⟩
theorem But.non {p D : Addr} {H H' : Hp} (b : But p H H') (hp : ∃ l, H' p = some (.lst l)) (n : H' D = none) : H D = none := by
  cases e : H D with
  | none => rfl
  | some u =>
    by_cases q : D = p
    · obtain ⟨l, hl⟩ := hp
      rw [q, hl] at n
      cases n
    · rw [b _ _ q e] at n
      cases n
/-- what a walk with the pool at hand keeps: all but the pool of H, and the pool -/
structure Pl (K : PySem.W.Frag) (p : Addr) (H0 H : Hp) (k : Int) (H' : Hp) : Prop where
  b : But p H H'
  p : PoolAt K p H0 k H'
section
variable {K : PySem.W.Frag} {p D : Addr} {H0 H H1 H' : Hp} {k j : Int} {o : HO}
theorem Pl.of (h : PoolAt K p H0 k H) : Pl K p H0 H k H := ⟨fun _ _ _ h => h, h⟩
theorem Pl.draw (h : Pl K p H0 H k H1) (b : But p H1 H') (q : PoolAt K p H0 j H') : Pl K p H0 H j H' := ⟨h.b.trans b, q⟩
theorem Pl.ext (h : Pl K p H0 H k H1) (x : Ext H1 H') : Pl K p H0 H k H' := ⟨h.b.trans (.of x), h.p.ext x⟩
theorem Pl.mono (h : Pl K p H0 H k H1) (e : k ≤ j) : Pl K p H0 H j H1 := ⟨h.b, h.p.mono e⟩
theorem Pl.lst (h : Pl K p H0 H k H1) : ∃ l, H1 p = some (.lst l) := h.p.lst
/-- a new address: fresh in all heaps of before, and not the pool's -/
structure Nw (p : Addr) (H0 H : Hp) (D : Addr) : Prop where
  n0 : H0 D = none
  n : H D = none
  ne : D ≠ p
theorem Pl.nw (h : Pl K p H0 H k H1) (n : H1 D = none) : Nw p H0 H D := ⟨h.p.non n, h.b.non h.lst n, h.p.ne n⟩
theorem Pl.put (h : Pl K p H0 H k H1) (n : Nw p H0 H D) : Pl K p H0 H k (upd H1 D o) := ⟨h.b.putN n.n, h.p.put n.ne n.n0⟩
/-- tuples stay when the pool or a list is written -/
theorem tu_butL (b : But p H H') (e : ∃ l, H p = some (.lst l)) : Tu H H' := fun a xs r => by
  obtain ⟨l, e⟩ := e
  exact Rd.but b (fun q => by
    subst q
    rcases r with r | ⟨o, r⟩ <;> rw [e] at r <;> cases r) r
theorem tu_putL {l : List V} (e : H D = some (.lst l)) : Tu H (upd H D o) := tu_butL .put ⟨l, e⟩
theorem tu_offL {l : List V} (e : H D = some (.lst l)) : Tu H (Off D H) := tu_off0 e
theorem ext_but (b : But p H H') : Ext (Off p H) (Off p H') := fun a u e => by
  by_cases q : a = p
  · rw [q, off_self] at e
    cases e
  · rw [off_ne q] at e ⊢
    exact b _ _ q e
end
theorem ePs_nlA (ps : Gt) : nlAll (ps.map eP) = true := ePs_nl ps
theorem at_int {os : List Int} {i : Int} {x : Int} (h0 : 0 ≤ i) (h1 : os[i.toNat]? = some x) : atI (os.map V.int) i = some (.int x) := by
  have := atI_nat (xs := os.map V.int) (j := i.toNat) (v := .int x) (by rw [List.getElem?_map, h1]; rfl)
  rwa [Int.toNat_of_nonneg h0] at this
theorem any_pairs (q : Int × Int) (l : Gt) : ((l.map eP).any fun z => PyData.eqv z (eP q)) = decide (q ∈ l) := by
  by_cases h : q ∈ l
  · rw [decide_eq_true h, List.any_eq_true]
    refine ⟨eP q, List.mem_map.mpr ⟨q, h, rfl⟩, ?_⟩
    exact (eqv_iff (eP q) (eP q) rfl rfl).mpr rfl
  · rw [decide_eq_false h, any_eqv_pairs _ _ h]
theorem shp_ePl (ps : Gt) : shp 2 (.list (ps.map eP)) := .lst fun d hd => by
  obtain ⟨p, _, rfl⟩ := List.mem_map.mp hd
  exact shp_eP p
theorem eqv_nil (gs : List Int) : PyData.eqv (.list (gs.map PyData.int)) (.list []) = decide (gs = []) := by
  cases gs with
  | nil => rfl
  | cons g gs => rfl
theorem shp_ints (gs : List Int) : shp 1 (.list (gs.map PyData.int)) := .lst fun d hd => by
  obtain ⟨p, _, rfl⟩ := List.mem_map.mp hd
  exact .int _ _
structure PsOk (n : Int) (o : Int) (ps : Gt) : Prop where
  nd : ps.Nodup
  ip : ∀ p ∈ ps, InR n p.1 ∧ InR n p.2
  ro : ReachO n ps o
theorem PsOk.ins {n o : Int} {ps : Gt} {q : Int × Int} (h : PsOk n o ps) (i : Nat) (hq : ¬ q ∈ ps) (h1 : InR n q.1) (h2 : InR n q.2) : PsOk n o (ins ps i q) := by
  refine ⟨nodup_ins h.nd hq, fun p hp => ?_, fun k hk ks ho cl => h.ro k hk ks ho fun p hp => cl p (mem_ins.mpr (.inr hp))⟩
  rcases mem_ins.mp hp with rfl | hp
  · exact ⟨h1, h2⟩
  · exact h.ip p hp
theorem reach_of {n o : Int} {ps : Gt} {os : List Int} (h0 : os[0]? = some o) (mem : ∀ j, j ∈ os ↔ InR n j) (hc : ∀ j, 1 ≤ j → j < os.length → ∃ a, a < j ∧ ∃ x y, os[a]? = some x ∧ os[j]? = some y ∧ (x, y) ∈ ps) : ReachO n ps o := fun k hk ks ho cl => by
  obtain ⟨j, hj⟩ := List.getElem?_of_mem ((mem k).mpr hk)
  induction j using Nat.strongRecOn generalizing k with
  | _ j ih =>
    cases j with
    | zero =>
      rw [h0] at hj
      cases hj
      exact ho
    | succ j =>
      obtain ⟨a, ha, x, y, hx, hy, hp⟩ := hc (j + 1) (by omega) (List.getElem?_eq_some_iff.mp hj).1
      rw [hj] at hy
      cases hy
      exact cl _ hp (ih a ha x ((mem x).mp (List.mem_of_getElem? hx)) hx)
end Sv
namespace Sv
open PySem PySem.Spec PyProof.Rows L2
theorem web_mk {K : PySem.W.Frag} {H1 : Hp} {a b : Addr} {n o : Int} {ps : Gt} {gs : List Int} {Q : VK} {E : XK} (hp : Dp K H1 (.ref a) (.list (List.map eP ps))) (hb : SqL K H1 b (List.map V.int gs)) (pre : WebPre n ps o gs)
    (k : ∀ x H', Ext H1 H' → IsWeb K H' x n ps o (exits n gs) → Q x H') (x dx : Addr) (hx : H1 x = none) (hd : H1 dx = none) (ne : dx ≠ x) :
    spWebI K [.ref x, .int n, .ref a, .int o, .ref b] (upd (upd H1 dx (.own x)) x (.ins (cWeb K) dx [])) (fun v H2 => v = .non ∧ Q (.ref x) H2) E :=
  ⟨_, _, _, _, _, rfl, x, dx, a, n, ps, o, b, gs, rfl, rfl, rfl, rfl, rfl, upd_same, hp.ext (mk_in hx hd ne), hb.ext (mk_in hx hd ne), pre, fun H' B hw => ⟨rfl, k _ H' (mk_ext hx hd ne B) hw⟩⟩
theorem fm_if {α β : Type} (p : α → Bool) (f : α → β) (l : List α) : l.filterMap (fun i => if p i = true then some (f i) else none) = (l.filter p).map f := by
  induction l with
  | nil => rfl
  | cons x l ih =>
    rw [List.filterMap_cons, List.filter_cons]
    by_cases h : p x = true
    · rw [if_pos h, if_pos h, List.map_cons, ih]
    · rw [if_neg h, if_neg h, ih]
theorem exits_len (n : Int) (gs : List Int) : (exits n gs).length ≤ n.toNat := by
  unfold exits
  refine Nat.le_trans (List.length_filter_le _ _) ?_
  rw [below_len]
  exact Nat.le_refl _
section
variable {P : Program} {w : World} {K : PySem.W.Frag} {mg : PySem.Str → Option Value} {base : Heap}
def spMade (K : PySem.W.Frag) : Sp := sp1 fun x H Q => ∃ n ps o gs, Dp K H x (toldD n ps o gs) ∧ WebPre n ps o gs ∧ ∀ z H', Ext H H' → IsWeb K H' z n ps o (exits n gs) → Q z H'
def spGatesL (K : PySem.W.Frag) : Sp := sp1 fun x H Q => ∃ n ps o gs, Dp K H x (toldD n ps o gs) ∧ 0 ≤ n ∧ n ≤ 24 ∧ ps.length ≤ 80 ∧ (∀ g ∈ gs, InR n g) ∧ ∀ L H', Ext H H' → Dp K H' (.ref L) (.list ((gatesW ps o (exits n gs)).map eP)) → Q (.ref L) H'
theorem sc_law_made : FnScope ["_law_told", "_law_count", "_law_pairs", "_law_origin", "_law_goals"] ["_law_told"] (defScope s_law_made) := ⟨rfl, rfl, rfl, by decide +kernel, rfl, by decide +kernel, by decide +kernel⟩
theorem c_law_made (T : Txt K mg) : C8.Cal P w K mg base 7 "_law_made" (spMade K) [] := by
  obtain ⟨fd, F⟩ := T.f_law_made
  refine calN F T.g_law_made sc_law_made (F.bindsN fun _ _ _ _ _ _ us hl => match us, hl with | [_], _ => rfl) len1 (fun cdv A outer s H vs Q E hr h => ?_)
  refine ⟨_, (pss_cons (ps_asg (pv 0) (pg_tup (by rfl) (pgs_cons (pg_name (i := 1) sc_law_made.nd rfl (by first | exact Or.inl rfl | exact Or.inr rfl)) (pgs_cons (pg_name (i := 2) sc_law_made.nd rfl (by first | exact Or.inl rfl | exact Or.inr rfl)) (pgs_cons (pg_name (i := 3) sc_law_made.nd rfl (by first | exact Or.inl rfl | exact Or.inr rfl)) (pgs_cons (pg_name (i := 4) sc_law_made.nd rfl (by first | exact Or.inl rfl | exact Or.inr rfl)) pgs_nil))))))
      (pss_one (ps_ret (C8.pe_mk (mk_Web T) hr (by decide) rfl (pa_cons (pv 1) (pa_cons (pv 2) (pa_cons (pv 3) (pa_cons (pv 4) pa_nil)))))))), ?_⟩
  -- slots: 0:_law_told 1:_law_count 2:_law_pairs 3:_law_origin 4:_law_goals
  obtain ⟨x, rfl, n, ps, o, gs, dp, pre, q⟩ := h
  obtain ⟨t, xs, rfl, st, al⟩ := dp.tupI
  obtain ⟨v0, v1, v2, v3, rfl, d0, d1, d2, d3⟩ := DpAll.four al
  obtain rfl := d0.intI
  obtain rfl := d2.intI
  obtain ⟨a, ys, rfl, _, _⟩ := id d1.lstI
  obtain ⟨b, zs, rfl, sb, ab⟩ := d3.lstI
  obtain rfl := ab.intsI
  refine ⟨_, rfl, t, _, rfl, st, rfl, _, _, rfl, _, _, rfl, _, _, rfl, _, _, rfl, rfl, ?_⟩
  exact ⟨_, rfl, _, rfl, _, rfl, _, rfl, web_mk d1 sb pre q⟩
theorem sc_law_gates : FnScope ["_law_told", "_law_count", "_law_pairs", "_law_origin", "_law_goals", "_law_place"] ["_law_told"] (defScope s_law_gates) := ⟨rfl, rfl, rfl, by decide +kernel, rfl, by decide +kernel, by decide +kernel⟩
theorem c_law_gates (T : Txt K mg) : C8.Cal P w K mg base 2 "_law_gates" (spGatesL K) [] := by
  obtain ⟨fd, F⟩ := T.f_law_gates
  refine calN F T.g_law_gates sc_law_gates (F.bindsN fun _ _ _ _ _ _ us hl => match us, hl with | [_], _ => rfl) len1 (fun cdv A outer s H vs Q E hr h => ?_)
  refine ⟨_, (pss_cons (ps_asg (pv 0) (pg_tup (by rfl) (pgs_cons (pg_name (i := 1) sc_law_gates.nd rfl (by first | exact Or.inl rfl | exact Or.inr rfl)) (pgs_cons (pg_name (i := 2) sc_law_gates.nd rfl (by first | exact Or.inl rfl | exact Or.inr rfl)) (pgs_cons (pg_name (i := 3) sc_law_gates.nd rfl (by first | exact Or.inl rfl | exact Or.inr rfl)) (pgs_cons (pg_name (i := 4) sc_law_gates.nd rfl (by first | exact Or.inl rfl | exact Or.inr rfl)) pgs_nil))))))
      (pss_one (ps_ret (pe_op op_cat (pe_op op_cat (pe_callTy call_list_of (by rfl) T.b_list (by decide +kernel) (pa_cons (pv 2) pa_nil)) (pe_lst (pa_cons (pe_tup (pa_cons (pe_un un_neg pe_int) (pa_cons (pv 3) pa_nil))) pa_nil))) (pe_lc (own := [("_law_place", 5)]) (g := gName 5) (tt := _) rfl sc_law_gates.nd (pi_range1 (by rfl) T.b_range (pa_cons (pv 1) pa_nil)) (blkOk_by (own := [("_law_place", 5)]) (N := ["_law_told", "_law_count", "_law_pairs", "_law_origin", "_law_goals", "_law_place"]) (sc := defScope s_law_gates) (by decide +kernel)) (fun _ _ _ _ _ => pg_name (i := 5) sc_law_gates.nd rfl (by first | exact Or.inl rfl | exact Or.inr rfl)) (fun _ _ _ _ _ => pts_one (pt_cmpR (op_inK K rfl) (pv 5) (pv 4) (by rfl))) (fun _ _ _ _ _ => (pe_tup (pa_cons (pv 5) (pa_cons (pe_un un_neg pe_int) pa_nil))))))))), ?_⟩
  -- slots: 0:_law_told 1:_law_count 2:_law_pairs 3:_law_origin 4:_law_goals 5:_law_place
  obtain ⟨x, rfl, n, ps, o, gs, dp, n0, n24, lp, gi, q⟩ := h
  have lin : 2000 < sizeLine := by rw [sizeLine_eq]; omega
  obtain ⟨t, xs, rfl, st, al⟩ := dp.tupI
  obtain ⟨v0, v1, v2, v3, rfl, d0, d1, d2, d3⟩ := DpAll.four al
  obtain rfl := d0.intI
  obtain rfl := d2.intI
  obtain ⟨a, ys, rfl, sa, aa⟩ := id d1.lstI
  obtain ⟨b, zs, rfl, sb, ab⟩ := d3.lstI
  obtain rfl := ab.intsI
  have ly : ys.length = ps.length := by rw [aa.len, List.length_map]
  refine ⟨_, rfl, t, _, rfl, st, rfl, _, _, rfl, _, _, rfl, _, _, rfl, _, _, rfl, rfl, ?_⟩
  refine ⟨_, rfl, a, _, rfl, .inl sa, fun l hl => ⟨_, rfl, _, rfl, by show 2 ≤ sizeLine; omega, fun m hm => ⟨by show 1 ≤ sizeLine; omega, fun l2 hl2 => ?_⟩⟩⟩
  have x1 := Ext.upd hl (o := .lst ys)
  have x2 := Ext.upd hm (o := .tup [.int (-1), .int o])
  have x3 := Ext.upd hl2 (o := .lst [.ref m])
  refine ⟨l, l2, ys, [.ref m], rfl, rfl, x3 _ _ (x2 _ _ upd_same), upd_same, by show ys.length + 1 ≤ sizeLine; omega, fun l3 hl3 => ?_⟩
  have x4 := Ext.upd hl3 (o := .lst (ys ++ [.ref m]))
  have x14 := x1.trans (x2.trans (x3.trans x4))
  refine ⟨_, rfl, n, rfl, by omega, by omega, fun D hD => ?_⟩
  have dp4 : DpAll K (upd (upd (upd (upd H l (.lst ys)) m (.tup [.int (-1), .int o])) l2 (.lst [.ref m])) l3 (.lst (ys ++ [.ref m]))) (ys ++ [.ref m]) (ps.map eP ++ [eP (-1, o)]) :=
    (aa.ext x14).snoc (.tup (.of ((x3.trans x4) _ _ upd_same)) (.cons (.int _) (.cons (.int _) .nil)))
  have h3 : upd (upd (upd (upd H l (.lst ys)) m (.tup [.int (-1), .int o])) l2 (.lst [.ref m])) l3 (.lst (ys ++ [.ref m])) l3 = some (.lst (ys ++ [.ref m])) := upd_same
  generalize upd (upd (upd (upd H l (.lst ys)) m (.tup [.int (-1), .int o])) l2 (.lst [.ref m])) l3 (.lst (ys ++ [.ref m])) = H4 at x14 dp4 h3 hD ⊢
  refine lcD_range (K := K) (fun i => if decide ((i : Int) ∈ gs) = true then some (eP ((i : Int), -1)) else none) hD (by omega) ?_ ?_
  · intro i H' Nx hi y1 tn
    refine ⟨rfl, _, rfl, _, rfl, b, _, rfl, .inl (sb.ext (x14.trans (y1.trans off_le))), rfl, flat_ints _, _, rfl, ?_⟩
    show if inV (V.int (0 + (i : Int))) (gs.map V.int) = true then _ else _
    rw [inV_ints, show (0 + (i : Int)) = i by omega]
    by_cases c : (i : Int) ∈ gs
    · rw [decide_eq_true c]
      refine iteT ⟨_, rfl, _, rfl, by show 2 ≤ sizeLine; omega, fun m hm => tn.keepN (d := eP ((i : Int), -1)) (if_pos (decide_eq_true c)) hm ?_⟩
      exact .tup (.of upd_same) (.cons (.int _) (.cons (.int _) .nil))
    · rw [decide_eq_false c]
      exact iteF (tn.drop0 (if_neg (by rw [decide_eq_false c]; exact Bool.false_ne_true)))
  · intro H5 md
    have e : (List.range n.toNat).filterMap (fun i : Nat => if decide ((i : Int) ∈ gs) = true then some (eP ((i : Int), -1)) else none) = (exits n gs).map fun x => eP (x, -1) := by
      rw [fm_if]
      unfold exits below
      rw [List.filter_map, List.map_map]
      rfl
    rw [e] at md
    obtain ⟨acc, y1, hacc, da⟩ := id md
    have y2 := y1.trans off_le
    have lacc : acc.length ≤ n.toNat := by
      rw [da.len, List.length_map]
      unfold exits below
      refine Nat.le_trans (List.length_filter_le _ _) ?_
      rw [List.length_map, List.length_range]
      exact Nat.le_refl _
    refine ⟨l3, D, _, acc, rfl, rfl, y2 _ _ h3, hacc, by rw [List.length_append, List.length_singleton]; omega, fun l4 hl4 => ?_⟩
    have x5 := Ext.upd hl4 (o := .lst (ys ++ [.ref m] ++ acc))
    refine q l4 _ (x14.trans (y2.trans x5)) (.lst (.of upd_same) ?_)
    have z := ((dp4.ext (y2.trans x5)).app ((da.ext off_le).ext x5))
    unfold gatesW
    rw [List.map_append, List.map_cons, List.map_map]
    rw [List.append_assoc (ps.map eP)] at z
    exact z
def spMarks (K : PySem.W.Frag) : Sp := sp2 fun x y H Q => ∃ n ps o gs b L, Dp K H x (toldD n ps o gs) ∧ y = .ref b ∧ SqL K H b (List.map V.int L) ∧ 0 ≤ n ∧ n ≤ 24 ∧ ps.length ≤ 80 ∧ (∀ g ∈ gs, InR n g) ∧ ∀ v H', Ext H H' → 
  Dp K H' v (.tuple [.list (((List.range (gatesW ps o (exits n gs)).length).filter (svG (gatesW ps o (exits n gs)) L)).map fun g => PyData.int (g : Nat)), .list (((List.range (gatesW ps o (exits n gs)).length).filter (bkG (gatesW ps o (exits n gs)) L)).map fun g => PyData.int (g : Nat))]) → Q v H'
theorem sc_law_marks : FnScope ["_law_told", "_law_inside", "_law_gates_here", "_law_saves", "_law_at"] ["_law_told", "_law_inside"] (defScope s_law_marks) := ⟨rfl, rfl, rfl, by decide +kernel, rfl, by decide +kernel, by decide +kernel⟩
theorem c_law_marks (T : Txt K mg) : C8.Cal P w K mg base 3 "_law_marks" (spMarks K) [] := by
  obtain ⟨fd, F⟩ := T.f_law_marks
  refine calN F T.g_law_marks sc_law_marks (F.bindsN fun _ _ _ _ _ _ us hl => match us, hl with | [_, _], _ => rfl) len2 (fun cdv A outer s H vs Q E hr h => ?_)
  refine ⟨_, (pss_cons (ps_set (i := 2) sc_law_marks.nd rfl (by first | exact Or.inl rfl | exact Or.inr rfl) (C8.pe_c (c_law_gates T) hr (by decide) rfl (pa_cons (pv 0) pa_nil)))
      (pss_cons (ps_setLc (i := 3) (own := [("_law_at", 4)]) (g := gName 4) (tt := _) rfl sc_law_marks.nd rfl rfl (sw_true rfl rfl rfl (by decide +kernel)) (pi_range1 (by rfl) T.b_range (pa_cons (pe_callB call_len (by rfl) T.b_len (by decide +kernel) (pa_cons (pv 2) pa_nil)) pa_nil)) (blkOk_by (own := [("_law_at", 4)]) (N := ["_law_told", "_law_inside", "_law_gates_here", "_law_saves", "_law_at"]) (sc := defScope s_law_marks) (by decide +kernel)) (fun _ _ _ _ _ => pg_name (i := 4) sc_law_marks.nd rfl (by first | exact Or.inl rfl | exact Or.inr rfl)) (fun _ _ _ _ _ => pts_one (PW.pt (pw_and (pt_cmpR (op_notInK K rfl) (pe_ix (ix_tupK K rfl) (pe_ix (ix_listK K rfl) (pv 2) (pv 4) (fun _ _ => rfl)) pe_int (fun _ _ => rfl)) (pv 1) (by rfl)) (pw_and1 (pt_cmpR (op_inK K rfl) (pe_ix (ix_tupK K rfl) (pe_ix (ix_listK K rfl) (pv 2) (pv 4) (fun _ _ => rfl)) pe_int (fun _ _ => rfl)) (pv 1) (by rfl)))))) (fun _ _ _ _ _ => (pv 4)))
      (pss_one (ps_ret (pe_tup (pa_cons (pv 3) (pa_cons (pe_lc (own := [("_law_at", 4)]) (g := gName 4) (tt := _) rfl sc_law_marks.nd (pi_range1 (by rfl) T.b_range (pa_cons (pe_callB call_len (by rfl) T.b_len (by decide +kernel) (pa_cons (pv 2) pa_nil)) pa_nil)) (blkOk_by (own := [("_law_at", 4)]) (N := ["_law_told", "_law_inside", "_law_gates_here", "_law_saves", "_law_at"]) (sc := defScope s_law_marks) (by decide +kernel)) (fun _ _ _ _ _ => pg_name (i := 4) sc_law_marks.nd rfl (by first | exact Or.inl rfl | exact Or.inr rfl)) (fun _ _ _ _ _ => pts_one (PW.pt (pw_and (pt_cmpR (op_inK K rfl) (pe_ix (ix_tupK K rfl) (pe_ix (ix_listK K rfl) (pv 2) (pv 4) (fun _ _ => rfl)) pe_int (fun _ _ => rfl)) (pv 1) (by rfl)) (pw_and1 (pt_cmpR (op_notInK K rfl) (pe_ix (ix_tupK K rfl) (pe_ix (ix_listK K rfl) (pv 2) (pv 4) (fun _ _ => rfl)) pe_int (fun _ _ => rfl)) (pv 1) (by rfl)))))) (fun _ _ _ _ _ => (pv 4))) pa_nil))))))), ?_⟩
  -- slots: 0:_law_told 1:_law_inside 2:_law_gates_here 3:_law_saves 4:_law_at
  obtain ⟨x, y, rfl, n, ps, o, gs, b, L, dp, rfl, sb, n0, n24, lp, gi, q⟩ := h
  have lin : 2000 < sizeLine := by rw [sizeLine_eq]; omega
  refine ⟨_, rfl, _, rfl, n, ps, o, gs, dp, n0, n24, lp, gi, fun R H1 x1 dG => ?_⟩
  have lG : (gatesW ps o (exits n gs)).length ≤ 200 := by
    rw [gatesW_len]
    have := exits_len n gs
    omega
  generalize gatesW ps o (exits n gs) = G at dG lG q
  obtain ⟨_, ys, e1, sg, ag⟩ := dG.lstI
  cases e1
  have ly : ys.length = G.length := by rw [ag.len, List.length_map]
  refine ⟨_, rfl, _, _, rfl, .inl ⟨_, sg, rfl⟩, _, rfl, by omega, by omega, fun D hD => ?_⟩
  rw [show ((ys.length : Nat) : Int).toNat = G.length by omega]
  refine lcD_range (K := K) (fun i => if svG G L i = true then some (.int (i : Nat)) else none) hD (by omega) ?_ ?_
  · intro i H' Nx hi y1 tn
    have yy := y1.trans off_le
    obtain ⟨v, hv, dv⟩ := ag.at (i := i) (by rw [List.getElem?_map, List.getElem?_eq_getElem hi]; rfl)
    obtain ⟨t, rfl, st⟩ := Sv.Dp.eP dv
    have ea : atI ys (0 + (i : Int)) = some (.ref t) := by rw [show (0 + (i : Int)) = i by omega]; exact atI_nat hv
    have eg : G.getD i (0, 0) = G[i] := by rw [List.getD_eq_getElem?_getD, List.getElem?_eq_getElem hi]; rfl
    refine ⟨rfl, _, rfl, _, rfl, R, ys, _, _, rfl, rfl, sg.ext yy, ea, t, _, _, _, rfl, rfl, st.ext yy, rfl, _, rfl, b, _, rfl, .inl ((sb.ext x1).ext yy), rfl, flat_ints _, _, rfl, ?_⟩
    show if (!inV (V.int G[i].1) (L.map V.int)) = true then _ else _
    rw [inV_ints]
    have es : svG G L i = (!decide (G[i].1 ∈ L) && decide (G[i].2 ∈ L)) := by unfold svG; rw [eg]
    by_cases c1 : G[i].1 ∈ L
    · rw [decide_eq_true c1] at es ⊢
      exact iteF (tn.drop0 (by rw [es]; rfl))
    · rw [decide_eq_false c1] at es ⊢
      refine iteT ⟨_, rfl, _, rfl, R, ys, _, _, rfl, rfl, sg.ext yy, ea, t, _, _, _, rfl, rfl, st.ext yy, rfl, _, rfl, b, _, rfl, .inl ((sb.ext x1).ext yy), rfl, flat_ints _, _, rfl, ?_⟩
      show if inV (V.int G[i].2) (L.map V.int) = true then _ else _
      rw [inV_ints]
      by_cases c2 : G[i].2 ∈ L
      · rw [decide_eq_true c2] at es ⊢
        refine iteT ⟨_, rfl, tn.keep0 (d := .int (i : Nat)) (by rw [es]; rfl) ?_⟩
        rw [show (0 + (i : Int)) = i by omega]
        exact .int _
      · rw [decide_eq_false c2] at es ⊢
        exact iteF (tn.drop0 (by rw [es]; rfl))
  · intro H2 md
    rw [fm_if] at md
    have x2 := md.ext1
    have d2 := md.dp
    refine ⟨_, rfl, _, rfl, _, _, rfl, .inl ⟨_, sg.ext x2, rfl⟩, _, rfl, by omega, by omega, fun D2 hD2 => ?_⟩
    rw [show ((ys.length : Nat) : Int).toNat = G.length by omega]
    refine lcD_range (K := K) (fun i => if bkG G L i = true then some (.int (i : Nat)) else none) hD2 (by omega) ?_ ?_
    · intro i H' Nx hi y1 tn
      have yy := x2.trans (y1.trans off_le)
      obtain ⟨v, hv, dv⟩ := ag.at (i := i) (by rw [List.getElem?_map, List.getElem?_eq_getElem hi]; rfl)
      obtain ⟨t, rfl, st⟩ := Sv.Dp.eP dv
      have ea : atI ys (0 + (i : Int)) = some (.ref t) := by rw [show (0 + (i : Int)) = i by omega]; exact atI_nat hv
      have eg : G.getD i (0, 0) = G[i] := by rw [List.getD_eq_getElem?_getD, List.getElem?_eq_getElem hi]; rfl
      refine ⟨rfl, _, rfl, _, rfl, R, ys, _, _, rfl, rfl, sg.ext yy, ea, t, _, _, _, rfl, rfl, st.ext yy, rfl, _, rfl, b, _, rfl, .inl ((sb.ext x1).ext yy), rfl, flat_ints _, _, rfl, ?_⟩
      show if inV (V.int G[i].1) (L.map V.int) = true then _ else _
      rw [inV_ints]
      have es : bkG G L i = (decide (G[i].1 ∈ L) && !decide (G[i].2 ∈ L)) := by unfold bkG; rw [eg]
      by_cases c1 : G[i].1 ∈ L
      · rw [decide_eq_true c1] at es ⊢
        refine iteT ⟨_, rfl, _, rfl, R, ys, _, _, rfl, rfl, sg.ext yy, ea, t, _, _, _, rfl, rfl, st.ext yy, rfl, _, rfl, b, _, rfl, .inl ((sb.ext x1).ext yy), rfl, flat_ints _, _, rfl, ?_⟩
        show if (!inV (V.int G[i].2) (L.map V.int)) = true then _ else _
        rw [inV_ints]
        by_cases c2 : G[i].2 ∈ L
        · rw [decide_eq_true c2] at es ⊢
          exact iteF (tn.drop0 (by rw [es]; rfl))
        · rw [decide_eq_false c2] at es ⊢
          refine iteT ⟨_, rfl, tn.keep0 (d := .int (i : Nat)) (by rw [es]; rfl) ?_⟩
          rw [show (0 + (i : Int)) = i by omega]
          exact .int _
      · rw [decide_eq_false c1] at es ⊢
        exact iteF (tn.drop0 (by rw [es]; rfl))
    · intro H3 md2
      rw [fm_if] at md2
      have x3 := md2.ext1
      have d3 := md2.dp
      refine ⟨by show 2 ≤ sizeLine; omega, fun m hm => ?_⟩
      have x4 := Ext.upd hm (o := .tup [.ref D, .ref D2])
      exact q (.ref m) _ (x1.trans (x2.trans (x3.trans x4))) (.tup (.of upd_same) (.cons ((d2.ext x3).ext x4) (.cons (d3.ext x4) .nil)))
def prD (sv bk : List (Option Int)) : PyData := .tuple [.list (sv.map oI), .list (bk.map oI)]
def spCost (K : PySem.W.Frag) : Sp := sp3 fun x y z H Q => ∃ n ps o gs b L sv bk, Dp K H x (toldD n ps o gs) ∧ y = .ref b ∧ SqL K H b (List.map V.int L) ∧ Dp K H z (prD sv bk) ∧ 0 ≤ n ∧ n ≤ 24 ∧ ps.length ≤ 80 ∧ (∀ g ∈ gs, InR n g) ∧ sv.length = (gatesW ps o (exits n gs)).length ∧ bk.length = (gatesW ps o (exits n gs)).length ∧ 
  ∀ H', Ext H H' → Q (oV (costG (gatesW ps o (exits n gs)) sv bk L)) H'
theorem sc_law_cost : FnScope ["_law_told", "_law_inside", "_law_prices_here", "_law_saves", "_law_backs", "_law_row", "_law_gate"] ["_law_told", "_law_inside", "_law_prices_here"] (defScope s_law_cost) := ⟨rfl, rfl, rfl, by decide +kernel, rfl, by decide +kernel, by decide +kernel⟩
theorem c_law_cost (T : Txt K mg) : C8.Cal P w K mg base 4 "_law_cost" (spCost K) [] := by
  obtain ⟨fd, F⟩ := T.f_law_cost
  refine calN F T.g_law_cost sc_law_cost (F.bindsN fun _ _ _ _ _ _ us hl => match us, hl with | [_, _, _], _ => rfl) len3 (fun cdv A outer s H vs Q E hr h => ?_)
  refine ⟨_, (pss_cons (ps_asg (C8.pe_c (c_law_marks T) hr (by decide) rfl (pa_cons (pv 0) (pa_cons (pv 1) pa_nil))) (pg_tup (by rfl) (pgs_cons (pg_name (i := 3) sc_law_cost.nd rfl (by first | exact Or.inl rfl | exact Or.inr rfl)) (pgs_cons (pg_name (i := 4) sc_law_cost.nd rfl (by first | exact Or.inl rfl | exact Or.inr rfl)) pgs_nil))))
      (pss_cons (ps_set (i := 5) sc_law_cost.nd rfl (by first | exact Or.inl rfl | exact Or.inr rfl) (pe_op op_cat (pe_lc (own := [("_law_gate", 6)]) (g := gName 6) (tt := tYes) rfl sc_law_cost.nd (pi_list (pv 3)) (blkOk_by (own := [("_law_gate", 6)]) (N := ["_law_told", "_law_inside", "_law_prices_here", "_law_saves", "_law_backs", "_law_row", "_law_gate"]) (sc := defScope s_law_cost) (by decide +kernel)) (fun _ _ _ _ _ => pg_name (i := 6) sc_law_cost.nd rfl (by first | exact Or.inl rfl | exact Or.inr rfl)) (fun _ _ _ _ _ => pts_nil) (fun _ _ _ _ _ => (pe_ix (ix_listK K rfl) (pe_ix (ix_tupK K rfl) (pv 2) pe_int (fun _ _ => rfl)) (pv 6) (fun _ _ => rfl)))) (pe_lc (own := [("_law_gate", 6)]) (g := gName 6) (tt := tYes) rfl sc_law_cost.nd (pi_list (pv 4)) (blkOk_by (own := [("_law_gate", 6)]) (N := ["_law_told", "_law_inside", "_law_prices_here", "_law_saves", "_law_backs", "_law_row", "_law_gate"]) (sc := defScope s_law_cost) (by decide +kernel)) (fun _ _ _ _ _ => pg_name (i := 6) sc_law_cost.nd rfl (by first | exact Or.inl rfl | exact Or.inr rfl)) (fun _ _ _ _ _ => pts_nil) (fun _ _ _ _ _ => (pe_ix (ix_listK K rfl) (pe_ix (ix_tupK K rfl) (pv 2) pe_int (fun _ _ => rfl)) (pv 6) (fun _ _ => rfl))))))
      (pss_cons (ps_if (pt_cmpR op_in_seq pe_non (pv 5) (by rfl)) (pss_one (ps_ret pe_non))
      pss_nil)
      (pss_one (ps_ret (pe_callB (cr_sum rfl) (by rfl) T.b_sum (by decide +kernel) (pa_cons (pv 5) pa_nil))))))), ?_⟩
  -- slots: 0:_law_told 1:_law_inside 2:_law_prices_here 3:_law_saves 4:_law_backs 5:_law_row 6:_law_gate
  obtain ⟨x, y, z, rfl, n, ps, o, gs, b, L, sv, bk, dp, rfl, sb, dpr, n0, n24, lp, gi, ls, lb, q⟩ := h
  have lin : 2000 < sizeLine := by rw [sizeLine_eq]; omega
  refine ⟨_, rfl, _, rfl, _, _, rfl, n, ps, o, gs, b, L, dp, rfl, sb, n0, n24, lp, gi, fun v H1 x1 dm => ?_⟩
  have lG : (gatesW ps o (exits n gs)).length ≤ 200 := by
    rw [gatesW_len]
    have := exits_len n gs
    omega
  generalize gatesW ps o (exits n gs) = G at dm lG ls lb q
  obtain ⟨tm, ms, rfl, sm, am⟩ := dm.tupI
  obtain ⟨u1, u2, rfl, e1, e2⟩ := DpAll.two am
  obtain ⟨a1, y1, rfl, s1, al1⟩ := e1.lstI
  obtain ⟨a2, y2, rfl, s2, al2⟩ := e2.lstI
  obtain rfl := dps_nI al1
  obtain rfl := dps_nI al2
  obtain ⟨tp, ys, rfl, st, apr⟩ := dpr.tupI
  obtain ⟨w1, w2, rfl, g1, g2⟩ := DpAll.two apr
  obtain ⟨b1, z1, rfl, t1, ar1⟩ := g1.lstI
  obtain ⟨b2, z2, rfl, t2, ar2⟩ := g2.lstI
  obtain rfl := ar1.osI
  obtain rfl := ar2.osI
  have lf : ∀ p : Nat → Bool, ((List.range G.length).filter p).length ≤ 200 := fun p => by
    have := List.length_filter_le p (List.range G.length)
    rw [List.length_range] at this
    omega
  have lt : ∀ (p : Nat → Bool) (i g : Nat), ((List.range G.length).filter p)[i]? = some g → g < G.length := fun p i g h => List.mem_range.mp (List.mem_filter.mp (List.mem_of_getElem? h)).1
  have ev : costG G sv bk L = osum (((List.range G.length).filter (svG G L)).map (fun g => sv.getD g none) ++ ((List.range G.length).filter (bkG G L)).map fun g => bk.getD g none) := rfl
  have la := lf (svG G L)
  have lb' := lf (bkG G L)
  have lta := lt (svG G L)
  have ltb := lt (bkG G L)
  generalize (List.range G.length).filter (svG G L) = svs at *
  generalize (List.range G.length).filter (bkG G L) = bks at *
  refine ⟨tm, _, rfl, sm, rfl, _, _, rfl, _, _, rfl, rfl, ?_⟩
  refine ⟨_, rfl, a1, rfl, ⟨_, s1⟩, fun D hD => lcD_list (K := K) (fun k => (svs[k]?).map fun g => oI (sv.getD g none)) hD s1 (by unfold nV; rw [List.length_map]; omega) ?_ ?_⟩
  · intro i x H' Nx hi y1 tn
    have yy := x1.trans (y1.trans off_le)
    unfold nV at hi
    rw [List.getElem?_map] at hi
    obtain ⟨g, hg, rfl⟩ := Option.map_eq_some_iff.mp hi
    have lg := lta i g hg
    have ea : atI (sv.map oV) (g : Int) = some (oV (sv.getD g none)) := atI_nat (by rw [List.getElem?_map, List.getD_eq_getElem?_getD, List.getElem?_eq_getElem (by omega)]; rfl)
    exact ⟨rfl, _, rfl, tp, _, _, _, rfl, rfl, st.ext yy, rfl, _, rfl, b1, _, _, _, rfl, rfl, t1.ext yy, ea, tn.keep0 (d := oI (sv.getD g none)) (by rw [hg]; rfl) (dp_o _)⟩
  · intro H2 md
    rw [show (nV svs).length = svs.length from List.length_map _, fm_map, ← Function.comp_def, ← List.map_map] at md
    obtain ⟨acc, y2, hacc, da⟩ := id md
    obtain rfl := da.osI
    have x2 := y2.trans off_le
    refine ⟨_, rfl, a2, rfl, ⟨_, s2.ext x2⟩, fun D2 hD2 => lcD_list (K := K) (fun k => (bks[k]?).map fun g => oI (bk.getD g none)) hD2 (s2.ext x2) (by unfold nV; rw [List.length_map]; omega) ?_ ?_⟩
    · intro i x H' Nx hi y1 tn
      have yy := x1.trans (x2.trans (y1.trans off_le))
      unfold nV at hi
      rw [List.getElem?_map] at hi
      obtain ⟨g, hg, rfl⟩ := Option.map_eq_some_iff.mp hi
      have lg := ltb i g hg
      have ea : atI (bk.map oV) (g : Int) = some (oV (bk.getD g none)) := atI_nat (by rw [List.getElem?_map, List.getD_eq_getElem?_getD, List.getElem?_eq_getElem (by omega)]; rfl)
      exact ⟨rfl, _, rfl, tp, _, _, _, rfl, rfl, st.ext yy, rfl, _, rfl, b2, _, _, _, rfl, rfl, t2.ext yy, ea, tn.keep0 (d := oI (bk.getD g none)) (by rw [hg]; rfl) (dp_o _)⟩
    · intro H3 md2
      rw [show (nV bks).length = bks.length from List.length_map _, fm_map, ← Function.comp_def, ← List.map_map] at md2
      obtain ⟨acc2, y3, hacc2, da2⟩ := id md2
      obtain rfl := da2.osI
      have x3 := y3.trans off_le
      refine ⟨D, D2, _, _, rfl, rfl, x3 _ _ hacc, hacc2, by rw [List.length_map, List.length_map, List.length_map, List.length_map]; omega, fun R hR => ?_⟩
      have x4 := Ext.upd hR (o := .lst ((svs.map fun g => sv.getD g none).map oV ++ (bks.map fun g => bk.getD g none).map oV))
      have hR2 : upd H3 R (.lst ((svs.map fun g => sv.getD g none).map oV ++ (bks.map fun g => bk.getD g none).map oV)) R = some (.lst (((svs.map fun g => sv.getD g none) ++ (bks.map fun g => bk.getD g none)).map oV)) := by rw [upd_same, List.map_append]
      have x14 := x1.trans (x2.trans (x3.trans x4))
      refine ⟨_, rfl, R, _, rfl, .inl (.of hR2), rfl, flat_os _, _, rfl, ?_⟩
      show if inV V.non (((svs.map fun g => sv.getD g none) ++ (bks.map fun g => bk.getD g none)).map oV) = true then _ else _
      have z := q _ x14
      rw [ev] at z
      generalize (svs.map fun g => sv.getD g none) ++ (bks.map fun g => bk.getD g none) = os at *
      rw [inV_os]
      by_cases hn : none ∈ os
      · rw [decide_eq_true hn]
        rw [os_none hn] at z
        exact iteT z
      · rw [decide_eq_false hn]
        obtain ⟨ns, f1, f2⟩ := os_some hn
        rw [f2] at z
        rw [f1] at hR2
        exact iteF ⟨_, rfl, R, ns, rfl, .of hR2, z⟩
def lotD (L : List Int) : PyData := .list (L.map PyData.int)
def spLots (K : PySem.W.Frag) : Sp := sp2 fun x y H Q => ∃ (n : Nat) (b : Addr) (U : List Int), x = .int (n : Nat) ∧ y = .ref b ∧ SqL K H b (List.map V.int U) ∧ n ≤ 4 ∧ ∀ L H', Ext H H' → Dp K H' (.ref L) (.list ((lotsL U n).map lotD)) → Q (.ref L) H'
def LotV (H : Hp) (v : V) (L : List Int) : Prop := ∃ a, v = .ref a ∧ H a = some (.lst (L.map V.int))
theorem LotV.ext {H H' : Hp} {v : V} {L : List Int} (h : LotV H v L) (e : Ext H H') : LotV H' v L := by
  obtain ⟨a, rfl, h⟩ := h
  exact ⟨a, rfl, e _ _ h⟩
theorem lots_dp {K : PySem.W.Frag} {H : Hp} : ∀ {vs : List V} {Ls : List (List Int)}, A2 (LotV H) vs Ls → DpAll K H vs (Ls.map lotD)
  | [], [], _ => .nil
  | [], _ :: _, h => by cases h.len
  | _ :: _, [], h => by cases h.len
  | v :: vs, L :: Ls, h => by
    obtain ⟨a, rfl, ha⟩ := h.at_ 0 v L rfl rfl
    exact .cons (.lst (.of ha) (DpAll.ints L)) (lots_dp ⟨by have := h.len; simpa using this, fun i v x hv hx => h.at_ (i + 1) v x hv hx⟩)
theorem lots_mem_len {U : List Int} {n : Nat} {L : List Int} (h : L ∈ lotsL U n) : L.length ≤ n := by
  obtain ⟨a, b, _⟩ := lots_in h
  have := nodup_le L (below n) a fun k hk => mem_below.mpr (b k hk)
  rw [below_len] at this
  omega
/-- one + [place] for one in found -/
theorem lots_put {K : PySem.W.Frag} {b F : Addr} {n i : Nat} {vs : List V} {Ls : List (List Int)} {H1 : Hp} {v4 : Option V} {D : Addr} {Qd : Hp → Prop} (hF : H1 F = some (.lst vs)) (al : A2 (LotV H1) vs Ls) (hD : H1 D = none) (ll : Ls.length ≤ 100) (lm : ∀ L ∈ Ls, L.length ≤ 100)
    (hd : ∀ H2 acc, Ext H1 H2 → H2 D = some (.lst acc) → A2 (LotV H2) acc (Ls.map (· ++ [(i : Int)])) → Qd H2) :
    ∃ W : Nat → Nat → Hp → Prop, (∃ m, W 0 m (upd H1 D (.lst []))) ∧ ∀ j m H, W j m H →
      ((Itl K F).stop j H ∧ Qd H) ∨ ((Itl K F).go j H ∧ ∃ Nx : Hp → Prop, (∀ H', Nx H' → ∃ m', m' < m ∧ W (j + 1) m' H') ∧ ∀ x H', (Itl K F).yld j H x H' → gName 4 x (wipe [some (.int (n : Nat)), some (.ref b), some (.ref F), some (.int (i : Int)), v4] [4]) H' fun σ2 H2 => wipe σ2 [4] = wipe [some (.int (n : Nat)), some (.ref b), some (.ref F), some (.int (i : Int)), v4] [4] ∧ tYes σ2 H2 fun b H3 =>
        if b = true then tOp rCat (tVar 4) (tLst (tCons (tVar 3) tNil)) σ2 H3 fun y H4 => ∃ acc, H4 D = some (.lst acc) ∧ acc.length < sizeLine ∧ Nx (upd H4 D (.lst (acc ++ [y]))) else Nx H3) := by
  have lin : 2000 < sizeLine := by rw [sizeLine_eq]; omega
  have lv : vs.length = Ls.length := al.len
  have nFD : F ≠ D := ne_of_none hF hD
  refine lc_list (K := K) (xs := vs) (fun j H' => Ext H1 (Off D H') ∧ ∃ acc, H' D = some (.lst acc) ∧ A2 (LotV (Off D H')) acc ((Ls.take j).map (· ++ [(i : Int)]))) ⟨?_, [], upd_same, .nil⟩ (fun j H' _ z => .of (off_le _ _ (z.1 _ _ hF))) ?_ ?_
  · rw [off_put, off_none hD]
    exact Ext.rfl'
  · rintro j x H2 hj ⟨x1, acc, hacc, aa⟩
    obtain ⟨L, hL, hx⟩ := al.get hj
    obtain ⟨a, rfl, ha⟩ := hx.ext x1
    have mL := lm L (List.mem_of_getElem? hL)
    have jl := (List.getElem?_eq_some_iff.mp hL).1
    refine ⟨rfl, _, rfl, _, rfl, by show 1 ≤ sizeLine; omega, fun l hl => ?_⟩
    have nl := neD hacc hl
    have ha2 : upd H2 l (.lst [.int (i : Int)]) a = some (.lst (L.map V.int)) := Ext.upd hl _ _ (off_le _ _ ha)
    refine ⟨a, l, _, _, rfl, rfl, ha2, upd_same, by rw [List.length_map]; show L.length + 1 ≤ sizeLine; omega, fun p hp => ?_⟩
    have hacc2 : upd (upd H2 l (.lst [.int (i : Int)])) p (.lst (L.map V.int ++ [.int (i : Int)])) D = some (.lst acc) := Ext.upd hp _ _ (Ext.upd hl _ _ hacc)
    have np := neD (Ext.upd hl (o := .lst [.int (i : Int)]) _ _ hacc) hp
    have la : acc.length = j := by
      rw [aa.len, List.length_map, List.length_take]
      omega
    refine ⟨acc, hacc2, by omega, ?_, acc ++ [.ref p], upd_same, ?_⟩
    · rw [off_put]
      exact x1.trans ((off_new hl nl).trans (off_new hp np))
    · rw [off_put]
      have e : Ls.take (j + 1) = Ls.take j ++ [L] := by
        rw [List.take_add_one, hL]
        rfl
      rw [e, List.map_append]
      refine (aa.imp fun v x z => z.ext ((off_new hl nl).trans (off_new hp np))).app (.one ⟨p, rfl, ?_⟩)
      rw [off_ne np, upd_same, List.map_append]
      rfl
  · rintro H2 ⟨x1, acc, hacc, aa⟩
    rw [lv, List.take_length] at aa
    exact hd H2 acc (x1.trans off_le) hacc (aa.imp fun v x z => z.ext off_le)
theorem sc_law_lots : FnScope ["_law_count", "_law_uses", "_law_found", "_law_place", "_law_one"] ["_law_count", "_law_uses"] (defScope s_law_lots) := ⟨rfl, rfl, rfl, by decide +kernel, rfl, by decide +kernel, by decide +kernel⟩
theorem c_law_lots (T : Txt K mg) : C8.Cal P w K mg base 1 "_law_lots" (spLots K) [] := by
  obtain ⟨fd, F⟩ := T.f_law_lots
  refine calN F T.g_law_lots sc_law_lots (F.bindsN fun _ _ _ _ _ _ us hl => match us, hl with | [_, _], _ => rfl) len2 (fun cdv A outer s H vs Q E hr h => ?_)
  refine ⟨_, (pss_cons (ps_set (i := 2) sc_law_lots.nd rfl (by first | exact Or.inl rfl | exact Or.inr rfl) (pe_lst (pa_cons (pe_lst pa_nil) pa_nil)))
      (pss_cons (ps_for PassesOwn.never rfl (pi_range1 (by rfl) T.b_range (pa_cons (pv 0) pa_nil)) (pg_name (i := 3) sc_law_lots.nd rfl (by first | exact Or.inl rfl | exact Or.inr rfl))
      (pss_one (ps_if (pt_cmpR op_in_seq (pv 3) (pv 1) (by rfl)) (pss_one (ps_setLc (i := 2) (own := [("_law_one", 4)]) (g := gName 4) (tt := tYes) rfl sc_law_lots.nd rfl rfl (sw_true rfl rfl rfl (by decide +kernel)) (pi_list (pv 2)) (blkOk_by (own := [("_law_one", 4)]) (N := ["_law_count", "_law_uses", "_law_found", "_law_place", "_law_one"]) (sc := defScope s_law_lots) (by decide +kernel)) (fun _ _ _ _ _ => pg_name (i := 4) sc_law_lots.nd rfl (by first | exact Or.inl rfl | exact Or.inr rfl)) (fun _ _ _ _ _ => pts_nil) (fun _ _ _ _ _ => (pe_op op_cat (pv 4) (pe_lst (pa_cons (pv 3) pa_nil))))))
      (pss_one (ps_set (i := 2) sc_law_lots.nd rfl (by first | exact Or.inl rfl | exact Or.inr rfl) (pe_op op_cat (pv 2) (pe_lc (own := [("_law_one", 4)]) (g := gName 4) (tt := tYes) rfl sc_law_lots.nd (pi_list (pv 2)) (blkOk_by (own := [("_law_one", 4)]) (N := ["_law_count", "_law_uses", "_law_found", "_law_place", "_law_one"]) (sc := defScope s_law_lots) (by decide +kernel)) (fun _ _ _ _ _ => pg_name (i := 4) sc_law_lots.nd rfl (by first | exact Or.inl rfl | exact Or.inr rfl)) (fun _ _ _ _ _ => pts_nil) (fun _ _ _ _ _ => (pe_op op_cat (pv 4) (pe_lst (pa_cons (pv 3) pa_nil)))))))))))
      (pss_one (ps_ret (pv 2))))), ?_⟩
  -- slots: 0:_law_count 1:_law_uses 2:_law_found 3:_law_place 4:_law_one
  obtain ⟨x, y, rfl, n, b, U, rfl, rfl, sb, n4, q⟩ := h
  have lin : 2000 < sizeLine := by rw [sizeLine_eq]; omega
  refine ⟨Nat.zero_le _, fun l hl => ⟨by show 1 ≤ sizeLine; omega, fun F hF => ?_⟩⟩
  have x0 := (Ext.upd hl (o := .lst [])).trans (Ext.upd hF (o := .lst [.ref l]))
  refine ⟨_, rfl, n, rfl, by omega, by omega, for_range (fun i σ H' => ∃ F vs v3 v4, σ = [some (.int (n : Nat)), some (.ref b), some (.ref F), v3, v4] ∧ Ext H H' ∧ H' F = some (.lst vs) ∧ A2 (LotV H') vs (lotsL U i))
    ⟨F, _, _, _, rfl, x0, upd_same, .one ⟨l, rfl, Ext.upd hF _ _ upd_same⟩⟩ ?_ ?_⟩
  · rintro i σ H1 hi ⟨F, vs, v3, v4, rfl, x1, hF1, al⟩
    have ll := lots_len U i
    have li : i < 4 := by omega
    have l16 : 2 ^ i ≤ 2 ^ 4 := Nat.pow_le_pow_right (by omega) (by omega)
    have l16' : (lotsL U i).length ≤ 16 := Nat.le_trans ll l16
    have lv := al.len
    refine ⟨_, rfl, _, rfl, b, _, rfl, .inl (sb.ext x1), rfl, flat_ints _, _, rfl, ?_⟩
    show if inV (V.int (0 + (i : Int))) (U.map V.int) = true then _ else _
    rw [inV_ints, show (0 + (i : Int)) = i by omega]
    have e : lotsL U (i + 1) = if (i : Int) ∈ U then (lotsL U i).map (· ++ [(i : Int)]) else lotsL U i ++ (lotsL U i).map (· ++ [(i : Int)]) := rfl
    by_cases c : (i : Int) ∈ U
    · rw [decide_eq_true c]
      rw [if_pos c] at e
      refine iteT ⟨_, rfl, F, rfl, ⟨_, .of hF1⟩, fun D hD => ?_⟩
      exact lots_put hF1 al hD (by omega) (fun L hL => by have := lots_mem_len hL; omega) fun H2 acc x2 hacc aa => ⟨D, acc, _, _, rfl, x1.trans x2, hacc, by rw [e]; exact aa⟩
    · rw [decide_eq_false c]
      rw [if_neg c] at e
      refine iteF ⟨_, rfl, _, rfl, F, rfl, ⟨_, .of hF1⟩, fun D hD => ?_⟩
      refine lots_put hF1 al hD (by omega) (fun L hL => by have := lots_mem_len hL; omega) fun H2 acc x2 hacc aa => ?_
      have la : acc.length = (lotsL U i).length := by rw [aa.len, List.length_map]
      refine ⟨F, D, vs, acc, rfl, rfl, x2 _ _ hF1, hacc, by omega, fun R hR => ?_⟩
      have x3 := Ext.upd hR (o := .lst (vs ++ acc))
      exact ⟨R, _, _, _, rfl, x1.trans (x2.trans x3), upd_same, by rw [e]; exact (al.imp fun v x z => z.ext (x2.trans x3)).app (aa.imp fun v x z => z.ext x3)⟩
  · rintro σ H1 ⟨F, vs, v3, v4, rfl, x1, hF1, al⟩
    exact ⟨_, rfl, q F H1 x1 (.lst (.of hF1) (lots_dp al))⟩
def spLLeast (K : PySem.W.Frag) : Sp := sp3 fun x y z H Q => ∃ n ps o gs b U sv bk, Dp K H x (toldD n ps o gs) ∧ y = .ref b ∧ SqL K H b (List.map V.int U) ∧ Dp K H z (prD sv bk) ∧ 0 ≤ n ∧ n ≤ 4 ∧ ps.length ≤ 80 ∧ (∀ g ∈ gs, InR n g) ∧ sv.length = (gatesW ps o (exits n gs)).length ∧ bk.length = (gatesW ps o (exits n gs)).length ∧ 
  ∀ H', Ext H H' → Q (oV (leastL (gatesW ps o (exits n gs)) sv bk U n.toNat)) H'
theorem ll_congr {n : Nat} {U : List Int} (G : Gt) (sv bk : List (Option Int)) : leastL G sv bk U n = (((lotsL U n).take (lotsL U n).length).map (costG G sv bk)).foldl bestS none := by
  rw [List.take_length]
  rfl
theorem sc_law_least : FnScope ["_law_told", "_law_uses", "_law_prices_here", "_law_best", "_law_inside", "_law_cost_here"] ["_law_told", "_law_uses", "_law_prices_here"] (defScope s_law_least) := ⟨rfl, rfl, rfl, by decide +kernel, rfl, by decide +kernel, by decide +kernel⟩
theorem c_law_least (T : Txt K mg) : C8.Cal P w K mg base 5 "_law_least" (spLLeast K) [] := by
  obtain ⟨fd, F⟩ := T.f_law_least
  refine calN F T.g_law_least sc_law_least (F.bindsN fun _ _ _ _ _ _ us hl => match us, hl with | [_, _, _], _ => rfl) len3 (fun cdv A outer s H vs Q E hr h => ?_)
  refine ⟨_, (pss_cons (ps_set (i := 3) sc_law_least.nd rfl (by first | exact Or.inl rfl | exact Or.inr rfl) pe_non)
      (pss_cons (ps_for PassesOwn.never rfl (pi_list (C8.pe_c (c_law_lots T) hr (by decide) rfl (pa_cons (pe_ix ix_tup (pv 0) pe_int (fun _ _ => rfl)) (pa_cons (pv 1) pa_nil)))) (pg_name (i := 4) sc_law_least.nd rfl (by first | exact Or.inl rfl | exact Or.inr rfl))
      (pss_cons (ps_set (i := 5) sc_law_least.nd rfl (by first | exact Or.inl rfl | exact Or.inr rfl) (C8.pe_c (c_law_cost T) hr (by decide) rfl (pa_cons (pv 0) (pa_cons (pv 4) (pa_cons (pv 2) pa_nil)))))
      (pss_one (ps_if (PW.pt (pw_and (pt_cmpR op_notN (pv 5) pe_non (nomark _)) (pw_and1 (PW.pt (pw_or (pt_cmpR op_isN (pv 3) pe_non (nomark _)) (pw_or1 (pt_cmpR op_lt (pv 5) (pv 3) (nomark _)))))))) (pss_one (ps_set (i := 3) sc_law_least.nd rfl (by first | exact Or.inl rfl | exact Or.inr rfl) (pv 5)))
      pss_nil))))
      (pss_one (ps_ret (pv 3))))), ?_⟩
  -- slots: 0:_law_told 1:_law_uses 2:_law_prices_here 3:_law_best 4:_law_inside 5:_law_cost_here
  obtain ⟨x, y, z, rfl, n, ps, o, gs, b, U, sv, bk, dp, rfl, sb, dpr, n0, n4, lp, gi, ls, lb, q⟩ := h
  have lin : 2000 < sizeLine := by rw [sizeLine_eq]; omega
  obtain ⟨t, xs, rfl, st, al⟩ := id dp.tupI
  obtain ⟨v0, v1, v2, v3, rfl, d0, d1, d2, d3⟩ := DpAll.four al
  obtain rfl := d0.intI
  have en : ((n.toNat : Nat) : Int) = n := by omega
  refine ⟨_, rfl, t, _, _, _, rfl, rfl, st, rfl, _, rfl, _, _, rfl, n.toNat, b, U, congrArg V.int en.symm, rfl, sb, by omega, fun F H1 x1 dF => ?_⟩
  obtain ⟨_, ys, e1, sF, aF⟩ := dF.lstI
  cases e1
  have ly : ys.length = (lotsL U n.toNat).length := by rw [aF.len, List.length_map]
  rw [ll_congr, ← ly] at q
  refine ⟨F, rfl, ⟨_, sF⟩, for_list (K := K) (xs := ys) (fun j σ H' => ∃ v4 v5, σ = [some (.ref t), some (.ref b), some z, some (oV ((((lotsL U n.toNat).take j).map (costG (gatesW ps o (exits n gs)) sv bk)).foldl bestS none)), v4, v5] ∧ Ext H1 H') ⟨_, _, rfl, Ext.rfl'⟩ (fun j σ H' _ z => by obtain ⟨_, _, _, x⟩ := z; exact sF.ext x) ?_ ?_⟩
  · rintro j v σ H2 hj ⟨v4, v5, rfl, x2⟩
    obtain ⟨d, hd, dv⟩ := aF.get hj
    rw [List.getElem?_map] at hd
    obtain ⟨L, hL, rfl⟩ := Option.map_eq_some_iff.mp hd
    obtain ⟨a, zs, rfl, sa, aa⟩ := dv.lstI
    obtain rfl := aa.intsI
    have x12 := x1.trans x2
    refine ⟨_, rfl, _, rfl, _, rfl, _, _, _, rfl, n, ps, o, gs, a, L, sv, bk, dp.ext x12, rfl, sa.ext x2, dpr.ext x12, n0, by omega, lp, gi, ls, lb, fun H3 x3 => ?_⟩
    have e : (((lotsL U n.toNat).take (j + 1)).map (costG (gatesW ps o (exits n gs)) sv bk)).foldl bestS none = bestS ((((lotsL U n.toNat).take j).map (costG (gatesW ps o (exits n gs)) sv bk)).foldl bestS none) (costG (gatesW ps o (exits n gs)) sv bk L) := by
      rw [List.take_add_one, hL, List.map_append, List.foldl_append]
      rfl
    rw [e]
    generalize (((lotsL U n.toNat).take j).map (costG (gatesW ps o (exits n gs)) sv bk)).foldl bestS none = best
    generalize costG (gatesW ps o (exits n gs)) sv bk L = c
    cases c with
    | none => 
      refine ⟨_, rfl, rfl, false, rfl, iteF ⟨_, _, rfl, x2.trans x3⟩⟩
    | some c =>
      refine ⟨_, rfl, rfl, true, rfl, iteT ?_⟩
      cases best with
      | none => exact ⟨_, rfl, rfl, true, rfl, iteT ⟨_, rfl, _, _, rfl, x2.trans x3⟩⟩
      | some m =>
        refine ⟨_, rfl, rfl, false, rfl, iteF ⟨_, rfl, _, rfl, c, m, rfl, rfl, _, rfl, ?_⟩⟩
        by_cases h : c < m
        · rw [decide_eq_true h]
          rw [show bestS (some m) (some c) = some c by simp [bestS, h]]
          exact iteT ⟨_, rfl, _, _, rfl, x2.trans x3⟩
        · rw [decide_eq_false h]
          rw [show bestS (some m) (some c) = some m by simp [bestS, h]]
          exact iteF ⟨_, _, rfl, x2.trans x3⟩
  · rintro σ H2 ⟨v4, v5, rfl, x2⟩
    exact ⟨_, rfl, q H2 (x1.trans x2)⟩
end
end Sv
namespace Sv
open PySem PySem.Spec PyProof.Rows L2
/-! ### _law_ahead -/
def Back (ps : Gt) (gs ks : List Int) : Prop := (∀ g ∈ gs, g ∈ ks) ∧ ∀ p ∈ ps, p.2 ∈ ks → p.1 ∈ ks
def spAhead (K : PySem.W.Frag) : Sp := sp2 fun x y H Q => ∃ ps b gs, Dp K H x (.list (List.map eP ps)) ∧ y = .ref b ∧ SqL K H b (List.map V.int gs) ∧ ps.length ≤ 20 ∧ gs.length ≤ 20 ∧
  ∀ L ms H', Ext H H' → H' L = some (.lst (List.map V.int ms)) → (∀ ks, Back ps gs ks → ∀ m ∈ ms, m ∈ ks) → (∀ g ∈ gs, g ∈ ms) → (∀ p ∈ ps, p.2 ∈ gs → p.1 ∈ ms) → Q (.ref L) H'
section
variable {P : Program} {w : World} {K : PySem.W.Frag} {mg : PySem.Str → Option Value} {base : Heap}
theorem sc_law_ahead : FnScope ["_law_pairs", "_law_goals", "_law_met", "_law_turn", "_law_one", "_law_two"] ["_law_pairs", "_law_goals"] (defScope s_law_ahead) := ⟨rfl, rfl, rfl, by decide +kernel, rfl, by decide +kernel, by decide +kernel⟩
theorem c_law_ahead (T : Txt K mg) : C8.Cal P w K mg base 1 "_law_ahead" (spAhead K) [] := by
  obtain ⟨fd, F⟩ := T.f_law_ahead
  refine calN F T.g_law_ahead sc_law_ahead (F.bindsN fun _ _ _ _ _ _ us hl => match us, hl with | [_, _], _ => rfl) len2 (fun cdv A outer s H vs Q E hr h => ?_)
  refine ⟨_, (pss_cons (ps_set (i := 2) sc_law_ahead.nd rfl (by first | exact Or.inl rfl | exact Or.inr rfl) (pe_callTy call_list_of (by rfl) T.b_list (by decide +kernel) (pa_cons (pv 1) pa_nil)))
      (pss_cons (ps_for PassesOwn.never rfl (pi_range1 (by rfl) T.b_range (pa_cons (pe_callB call_len (by rfl) T.b_len (by decide +kernel) (pa_cons (pv 0) pa_nil)) pa_nil)) (pg_name (i := 3) sc_law_ahead.nd rfl (by first | exact Or.inl rfl | exact Or.inr rfl))
      (pss_one (ps_for PassesOwn.never rfl (pi_list (pv 0)) (pg_tup (by rfl) (pgs_cons (pg_name (i := 4) sc_law_ahead.nd rfl (by first | exact Or.inl rfl | exact Or.inr rfl)) (pgs_cons (pg_name (i := 5) sc_law_ahead.nd rfl (by first | exact Or.inl rfl | exact Or.inr rfl)) pgs_nil)))
      (pss_one (ps_if (PW.pt (pw_and (pt_cmpR op_in_seq (pv 5) (pv 2) (by rfl)) (pw_and1 (pt_cmpR op_notIn_seq (pv 4) (pv 2) (by rfl))))) (pss_one (ps_expr (pe_bm PySem.F.plainAttrs_list PySem.F.slot_list_append PySem.F.type_list_append mt_append (pv 2) (pa_cons (pv 4) pa_nil))))
      pss_nil)))))
      (pss_one (ps_ret (pv 2))))), ?_⟩
  -- slots: 0:_law_pairs 1:_law_goals 2:_law_met 3:_law_turn 4:_law_one 5:_law_two
  obtain ⟨x, y, rfl, ps, b, gs, dp, rfl, hb, lp, lg, q⟩ := h
  obtain ⟨a, xs, rfl, sa, al⟩ := dp.lstI
  have lin : 2000 < sizeLine := by rw [sizeLine_eq]; omega
  have lxs : xs.length = ps.length := by rw [al.len, List.length_map]
  refine ⟨_, rfl, b, _, rfl, .inl hb, fun L hL => ?_⟩
  have hL0 : upd H L (.lst (gs.map V.int)) L = some (.lst (gs.map V.int)) := upd_same
  refine ⟨_, rfl, _, _, rfl, .inl ⟨_, sa.ext (Ext.upd hL), rfl⟩, _, rfl, by omega, by omega, ?_⟩
  rw [show ((xs.length : Nat) : Int).toNat = ps.length by omega]
  refine for_range (fun i σ H' => ∃ ms v3 v4 v5, σ = [some (.ref a), some (.ref b), some (.ref L), v3, v4, v5] ∧ Ext H H' ∧ H' L = some (.lst (List.map V.int ms)) ∧ (∀ ks, Back ps gs ks → ∀ m ∈ ms, m ∈ ks) ∧ (∀ g ∈ gs, g ∈ ms) ∧ ms.length ≤ gs.length + i * 20 ∧ (0 < i → ∀ p ∈ ps, p.2 ∈ gs → p.1 ∈ ms))
    ⟨gs, _, _, _, rfl, Ext.upd hL, hL0, fun ks h => h.1, fun g h => h, by omega, fun h => absurd h (by omega)⟩ ?_ ?_
  · rintro i σ H' hi ⟨ms, v3, v4, v5, rfl, x1, hm, snd, sub, len, cm⟩
    refine ⟨_, rfl, a, rfl, ⟨_, sa.ext x1⟩, for_list (K := K) (xs := xs) (fun j σ H' => ∃ ms v4 v5, σ = [some (.ref a), some (.ref b), some (.ref L), some (.int (0 + (i : Int))), v4, v5] ∧ Ext H H' ∧ H' L = some (.lst (List.map V.int ms)) ∧ (∀ ks, Back ps gs ks → ∀ m ∈ ms, m ∈ ks) ∧ (∀ g ∈ gs, g ∈ ms) ∧ ms.length ≤ gs.length + i * 20 + j ∧ (∀ p ∈ ps.take j, p.2 ∈ gs → p.1 ∈ ms))
      ⟨ms, _, _, rfl, x1, hm, snd, sub, by omega, by simp⟩ (fun j σ H' _ z => by obtain ⟨_, _, _, _, x, _⟩ := z; exact sa.ext x) ?_ ?_⟩
    · rintro j v σ H2 hj ⟨ms, v4, v5, rfl, x2, hm, snd, sub, len, cm⟩
      obtain ⟨p, t, hp, rfl, ht⟩ := ePs_get (al.ext x2) hj
      have jl := (List.getElem?_eq_some_iff.mp hp).1
      have mp : p ∈ ps := List.mem_of_getElem? hp
      refine ⟨t, _, rfl, ht, rfl, _, _, rfl, _, _, rfl, rfl, ?_⟩
      refine ⟨_, rfl, _, rfl, L, _, rfl, .inl (.of hm), rfl, flat_ints _, _, rfl, ?_⟩
      show if inV (V.int p.2) (ms.map V.int) = true then _ else _
      rw [inV_ints]
      have tk : ∀ q ∈ ps.take (j + 1), q ∈ ps.take j ∨ q = p := fun q hq => by
        rw [List.take_add_one, hp, List.mem_append] at hq
        simpa using hq
      by_cases h2 : p.2 ∈ ms
      · rw [decide_eq_true h2]
        refine iteT ⟨_, rfl, _, rfl, L, _, rfl, .inl (.of hm), rfl, flat_ints _, _, rfl, ?_⟩
        show if (!inV (V.int p.1) (ms.map V.int)) = true then _ else _
        rw [inV_ints]
        by_cases h1 : p.1 ∈ ms
        · rw [decide_eq_true h1]
          refine iteF ⟨ms, _, _, rfl, x2, hm, snd, sub, by omega, fun q hq g => ?_⟩
          rcases tk q hq with h | rfl
          · exact cm q h g
          · exact h1
        · rw [decide_eq_false h1]
          refine iteT ⟨_, rfl, .inl ⟨rfl, _, .of hm⟩, _, rfl, L, _, _, rfl, rfl, hm, by rw [List.length_map]; omega, ms ++ [p.1], _, _, rfl, x2.put hL, ?_, fun ks h m hm' => ?_, fun g h => List.mem_append_left _ (sub g h), by rw [List.length_append, List.length_singleton]; omega, fun q hq g => ?_⟩
          · rw [upd_same, List.map_append]
            rfl
          · rcases List.mem_append.mp hm' with z | z
            · exact snd ks h m z
            · rw [List.mem_singleton.mp z]
              exact h.2 p mp (snd ks h _ h2)
          · rcases tk q hq with h | rfl
            · exact List.mem_append_left _ (cm q h g)
            · exact List.mem_append_right _ (by simp)
      · rw [decide_eq_false h2]
        refine iteF ⟨ms, _, _, rfl, x2, hm, snd, sub, by omega, fun q hq g => ?_⟩
        rcases tk q hq with h | rfl
        · exact cm q h g
        · exact absurd (sub _ g) h2
    · rintro σ H2 ⟨ms, v4, v5, rfl, x2, hm, snd, sub, len, cm⟩
      refine ⟨ms, _, _, _, rfl, x2, hm, snd, sub, by omega, fun _ p hp => cm p (by rw [lxs, List.take_length]; exact hp)⟩
  · rintro σ H' ⟨ms, v3, v4, v5, rfl, x1, hm, snd, sub, len, cm⟩
    refine ⟨_, rfl, q L ms H' x1 hm snd sub fun p hp => cm ?_ p hp⟩
    cases ps with
    | nil => cases hp
    | cons _ _ => exact Nat.succ_pos _
end
end Sv
namespace Sv
open PySem PySem.Spec PyProof.Rows L2
def spLawWeb (K : PySem.W.Frag) : Sp := sp3 fun x y z H Q => ∃ p k H0, x = .ref p ∧ y = .int 4 ∧ z = .int 4 ∧ 0 ≤ k ∧ k < 1000 ∧ PoolAt K p H0 k H ∧
  ∀ v n ps o gs H', But p H H' → PoolAt K p H0 (k + 200) H' → Dp K (Off p H') v (toldD n ps o gs) → WebPre n ps o gs → n ≤ 4 → ps.length ≤ 11 → gs.length ≤ 8 → Q v H'
section
variable {P : Program} {w : World} {K : PySem.W.Frag} {mg : PySem.Str → Option Value} {base : Heap}
theorem sc_law_web : FnScope ["_law_pool_here", "_law_most", "_law_extra", "_law_count", "_law_order", "_law_place", "_law_pairs", "_law_k", "_law_pair", "_law_goals"] ["_law_pool_here", "_law_most", "_law_extra"] (defScope s_law_web) := ⟨rfl, rfl, rfl, by decide +kernel, rfl, by decide +kernel, by decide +kernel⟩
theorem c_law_web (T : Txt K mg) : C8.Cal P w K mg base 3 "_law_web" (spLawWeb K) [] := by
  obtain ⟨fd, F⟩ := T.f_law_web
  refine calN F T.g_law_web sc_law_web (F.bindsN fun _ _ _ _ _ _ us hl => match us, hl with | [_, _, _], _ => rfl) len3 (fun cdv A outer s H vs Q E hr h => ?_)
  refine ⟨_, (pss_cons (ps_set (i := 3) sc_law_web.nd rfl (by first | exact Or.inl rfl | exact Or.inr rfl) (pe_op op_add pe_int (C8.pe_c (c_law_draw T) hr (by decide) rfl (pa_cons (pv 0) (pa_cons (pv 1) pa_nil)))))
      (pss_cons (ps_set (i := 4) sc_law_web.nd rfl (by first | exact Or.inl rfl | exact Or.inr rfl) (pe_lst pa_nil))
      (pss_cons (ps_for PassesOwn.never rfl (pi_range1 (by rfl) T.b_range (pa_cons (pv 3) pa_nil)) (pg_name (i := 5) sc_law_web.nd rfl (by first | exact Or.inl rfl | exact Or.inr rfl))
      (pss_one (ps_expr (pe_bm PySem.F.plainAttrs_list PySem.F.slot_list_insert PySem.F.type_list_insert mt_insert (pv 4) (pa_cons (C8.pe_c (c_law_draw T) hr (by decide) rfl (pa_cons (pv 0) (pa_cons (pe_op op_add (pv 5) pe_int) pa_nil))) (pa_cons (pv 5) pa_nil))))))
      (pss_cons (ps_set (i := 6) sc_law_web.nd rfl (by first | exact Or.inl rfl | exact Or.inr rfl) (pe_lst pa_nil))
      (pss_cons (ps_for PassesOwn.never rfl (pi_range2 (by rfl) T.b_range (pa_cons pe_int (pa_cons (pv 3) pa_nil))) (pg_name (i := 7) sc_law_web.nd rfl (by first | exact Or.inl rfl | exact Or.inr rfl))
      (pss_one (ps_expr (pe_bm PySem.F.plainAttrs_list PySem.F.slot_list_insert PySem.F.type_list_insert mt_insert (pv 6) (pa_cons (C8.pe_c (c_law_draw T) hr (by decide) rfl (pa_cons (pv 0) (pa_cons (pv 7) pa_nil))) (pa_cons (pe_tup (pa_cons (pe_ix ix_list (pv 4) (C8.pe_c (c_law_draw T) hr (by decide) rfl (pa_cons (pv 0) (pa_cons (pv 7) pa_nil))) (fun _ _ => rfl)) (pa_cons (pe_ix ix_list (pv 4) (pv 7) (fun _ _ => rfl)) pa_nil))) pa_nil))))))
      (pss_cons (ps_for PassesOwn.never rfl (pi_range1 (by rfl) T.b_range (pa_cons (C8.pe_c (c_law_draw T) hr (by decide) rfl (pa_cons (pv 0) (pa_cons (pe_op op_add (pv 2) pe_int) pa_nil))) pa_nil)) (pg_name (i := 7) sc_law_web.nd rfl (by first | exact Or.inl rfl | exact Or.inr rfl))
      (pss_cons (ps_set (i := 8) sc_law_web.nd rfl (by first | exact Or.inl rfl | exact Or.inr rfl) (pe_tup (pa_cons (C8.pe_c (c_law_draw T) hr (by decide) rfl (pa_cons (pv 0) (pa_cons (pv 3) pa_nil))) (pa_cons (C8.pe_c (c_law_draw T) hr (by decide) rfl (pa_cons (pv 0) (pa_cons (pv 3) pa_nil))) pa_nil))))
      (pss_one (ps_if (pt_cmpR (op_notInD (hu65 hr)) (pv 8) (pv 6) (by rfl)) (pss_one (ps_expr (pe_bm PySem.F.plainAttrs_list PySem.F.slot_list_insert PySem.F.type_list_insert mt_insert (pv 6) (pa_cons (C8.pe_c (c_law_draw T) hr (by decide) rfl (pa_cons (pv 0) (pa_cons (pe_op op_add (pe_callB call_len (by rfl) T.b_len (by decide +kernel) (pa_cons (pv 6) pa_nil)) pe_int) pa_nil))) (pa_cons (pv 8) pa_nil)))))
      pss_nil))))
      (pss_cons (ps_setLc (i := 9) (own := [("_law_place", 5)]) (g := gName 5) (tt := _) rfl sc_law_web.nd rfl rfl (sw_true rfl rfl rfl (by decide +kernel)) (pi_range1 (by rfl) T.b_range (pa_cons (pv 3) pa_nil)) (blkOk_by (own := [("_law_place", 5)]) (N := ["_law_pool_here", "_law_most", "_law_extra", "_law_count", "_law_order", "_law_place", "_law_pairs", "_law_k", "_law_pair", "_law_goals"]) (sc := defScope s_law_web) (by decide +kernel)) (fun _ _ _ _ _ => pg_name (i := 5) sc_law_web.nd rfl (by first | exact Or.inl rfl | exact Or.inr rfl)) (fun _ _ _ _ _ => pts_one (pt_cmpR op_eq (C8.pe_c (c_law_draw T) hr (by decide) rfl (pa_cons (pv 0) (pa_cons pe_int pa_nil))) pe_int (nomark _))) (fun _ _ _ _ _ => (pv 5)))
      (C8.pss_cut (ps_if (pt_cmpR (op_eqD hr.units) (pv 9) (pe_lst pa_nil) (nomark _)) (pss_one (ps_set (i := 9) sc_law_web.nd rfl (by first | exact Or.inl rfl | exact Or.inr rfl) (pe_lst (pa_cons (C8.pe_c (c_law_draw T) hr (by decide) rfl (pa_cons (pv 0) (pa_cons (pv 3) pa_nil))) pa_nil))))
      pss_nil)
      (pss_cons (ps_for PassesOwn.never rfl (pi_range1 (by rfl) T.b_range (pa_cons (pv 3) pa_nil)) (pg_name (i := 5) sc_law_web.nd rfl (by first | exact Or.inl rfl | exact Or.inr rfl))
      (pss_one (ps_if (pt_cmpR op_notIn_seq (pv 5) (C8.pe_c (c_law_ahead T) hr (by decide) rfl (pa_cons (pv 6) (pa_cons (pv 9) pa_nil))) (by rfl)) (pss_one (ps_if (pt_cmpR op_eq (C8.pe_c (c_law_draw T) hr (by decide) rfl (pa_cons (pv 0) (pa_cons pe_int pa_nil))) pe_int (nomark _)) (pss_one (ps_expr (pe_bm PySem.F.plainAttrs_list PySem.F.slot_list_insert PySem.F.type_list_insert mt_insert (pv 6) (pa_cons (C8.pe_c (c_law_draw T) hr (by decide) rfl (pa_cons (pv 0) (pa_cons (pe_op op_add (pe_callB call_len (by rfl) T.b_len (by decide +kernel) (pa_cons (pv 6) pa_nil)) pe_int) pa_nil))) (pa_cons (pe_tup (pa_cons (pv 5) (pa_cons (pe_ix ix_list (pv 9) (C8.pe_c (c_law_draw T) hr (by decide) rfl (pa_cons (pv 0) (pa_cons (pe_callB call_len (by rfl) T.b_len (by decide +kernel) (pa_cons (pv 9) pa_nil)) pa_nil))) (fun _ _ => rfl)) pa_nil))) pa_nil)))))
      (pss_one (ps_expr (pe_bm PySem.F.plainAttrs_list PySem.F.slot_list_insert PySem.F.type_list_insert mt_insert (pv 9) (pa_cons (C8.pe_c (c_law_draw T) hr (by decide) rfl (pa_cons (pv 0) (pa_cons (pe_op op_add (pe_callB call_len (by rfl) T.b_len (by decide +kernel) (pa_cons (pv 9) pa_nil)) pe_int) pa_nil))) (pa_cons (pv 5) pa_nil)))))))
      pss_nil)))
      (pss_one (ps_ret (pe_tup (pa_cons (pv 3) (pa_cons (pv 6) (pa_cons (pe_ix ix_list (pv 4) pe_int (fun _ _ => rfl)) (pa_cons (pv 9) pa_nil)))))))))))))))), ?_⟩
  -- slots: 0:_law_pool_here 1:_law_most 2:_law_extra 3:_law_count 4:_law_order 5:_law_place 6:_law_pairs 7:_law_k 8:_law_pair 9:_law_goals
  obtain ⟨x, y, z, rfl, p, k, H0, rfl, rfl, rfl, k0, k1, pool, q⟩ := h
  have lin : 2000 < sizeLine := by rw [sizeLine_eq]; omega
  refine ⟨_, rfl, _, rfl, _, _, rfl, p, k, _, H0, rfl, rfl, by omega, by omega, by omega, pool, fun d H1 d0 d1 B1 P1 => ⟨_, _, rfl, rfl, Nat.zero_le _, fun O hO => ?_⟩⟩
  have l1 := (Pl.of pool).draw B1 P1
  have wO := l1.nw hO
  have hnn : (((1 + d).toNat : Nat) : Int) = 1 + d := by omega
  refine ⟨_, rfl, _, rfl, by omega, by omega, for_range (fun i σ H' => ∃ os v5, σ = [some (.ref p), some (.int 4), some (.int 4), some (.int (1 + d)), some (.ref O), v5, none, none, none, none] ∧ Pl K p H0 H (k + 1 + i) H' ∧ H' O = some (.lst (os.map V.int)) ∧ os.length = i ∧ os.Nodup ∧ ∀ j, j ∈ os ↔ InR i j)
    ⟨[], _, rfl, (l1.put wO).mono (by omega), upd_same, rfl, List.nodup_nil, fun j => ⟨fun z => by simp at z, fun z => by have := z.1; have := z.2; omega⟩⟩ ?_ ?_⟩
  · rintro i σ H2 hi ⟨os, v5, rfl, l2, hos, lo, nd, mem⟩
    refine ⟨_, rfl, .inl ⟨rfl, _, .of hos⟩, _, rfl, _, rfl, _, _, rfl, rfl, _, _, rfl, p, _, _, H0, rfl, rfl, by omega, by omega, by omega, l2.p, fun e H3 e0 e1 B3 P3 => ?_⟩
    have hos3 := B3 _ _ wO.ne hos
    refine ⟨_, rfl, O, _, e, _, rfl, rfl, hos3, by rw [List.length_map]; omega, e0, by omega, ins os e.toNat i, _, by simp only [Int.zero_add]; rfl, ?_, ?_, ?_, ?_, ?_⟩
    · exact (((l2.draw B3 P3).put wO).mono (by omega))
    · rw [upd_same, ← map_ins]
      simp
    · rw [len_ins]
      omega
    · exact nodup_ins nd fun z => by have := ((mem _).mp z).2; omega
    · intro j
      rw [mem_ins, mem j]
      constructor
      · rintro (rfl | z)
        · exact ⟨by omega, by omega⟩
        · exact ⟨z.1, by have := z.2; omega⟩
      · intro z
        by_cases c : j = i
        · exact .inl c
        · exact .inr ⟨z.1, by have := z.2; omega⟩
  · rintro σ H2 ⟨os, v5, rfl, l2, hos, lo, nd, mem⟩
    rw [hnn] at mem l2
    obtain ⟨o, ho⟩ : ∃ o, os[0]? = some o := ⟨os[0]'(by omega), List.getElem?_eq_getElem _⟩
    refine ⟨Nat.zero_le _, fun L hL => ?_⟩
    have wL := l2.nw hL
    have nLO : O ≠ L := (ne_of_none hos hL)
    have l3 := (l2.put (o := .lst []) wL).mono (j := k + 6) (by omega)
    have hos3 : upd H2 L (.lst []) O = some (.lst (os.map V.int)) := by rw [upd_ne nLO]; exact hos
    refine ⟨_, rfl, 1, 1 + d, rfl, ⟨by omega, by omega, by omega, by omega⟩, ?_⟩
    have en : (1 + d - 1).toNat = d.toNat := by omega
    rw [en]
    refine for_range (fun i σ H' => ∃ ps vs v7, σ = [some (.ref p), some (.int 4), some (.int 4), some (.int (1 + d)), some (.ref O), v5, some (.ref L), v7, none, none] ∧ Pl K p H0 H (k + 6 + 2 * i) H' ∧ H' O = some (.lst (os.map V.int)) ∧ H' L = some (.lst vs) ∧ DpAll K H' vs (ps.map eP) ∧ ps.length = i ∧ ps.Nodup ∧
      (∀ p ∈ ps, InR (1 + d) p.1 ∧ InR (1 + d) p.2) ∧ (∀ p ∈ ps, ∃ j, j ≤ i ∧ os[j]? = some p.2) ∧ ∀ j, 1 ≤ j → j ≤ i → ∃ a, a < j ∧ ∃ x y, os[a]? = some x ∧ os[j]? = some y ∧ (x, y) ∈ ps)
      ⟨[], [], _, rfl, l3.mono (by omega), hos3, upd_same, .nil, rfl, List.nodup_nil, by simp, by simp, fun j h1 h2 => by omega⟩ ?_ ?_
    · rintro i σ H4 hi ⟨ps, vs, v7, rfl, l4, ho4, hL4, dp, lp, pn, pi, pj, pc⟩
      refine ⟨_, rfl, .inl ⟨rfl, _, .of hL4⟩, _, rfl, _, rfl, _, _, rfl, p, _, _, H0, rfl, rfl, by omega, by omega, by omega, l4.p, fun e H5 e0 e1 B5 P5 => ?_⟩
      have l5 := l4.draw B5 P5
      refine ⟨_, rfl, _, rfl, _, rfl, _, _, rfl, p, _, _, H0, rfl, rfl, by omega, by omega, by omega, l5.p, fun f H6 f0 f1 B6 P6 => ?_⟩
      have l6 := l5.draw B6 P6
      have ho6 := B6 _ _ wO.ne (B5 _ _ wO.ne ho4)
      have hL6 := B6 _ _ wL.ne (B5 _ _ wL.ne hL4)
      have dp6 := DpAll.tu (Tu.trans (tu_butL B5 l4.lst) (tu_butL B6 l5.lst)) _ _ (ePs_nlA ps) dp
      obtain ⟨x, hx⟩ : ∃ x, os[f.toNat]? = some x := ⟨os[f.toNat]'(by omega), List.getElem?_eq_getElem _⟩
      obtain ⟨y, hy⟩ : ∃ y, os[i + 1]? = some y := ⟨os[i + 1]'(by omega), List.getElem?_eq_getElem _⟩
      have ix : InR (1 + d) x := (mem x).mp (List.mem_of_getElem? hx)
      have iy : InR (1 + d) y := (mem y).mp (List.mem_of_getElem? hy)
      refine ⟨O, _, f, _, rfl, rfl, .of ho6, at_int f0 hx, _, rfl, _, rfl, O, _, _, _, rfl, rfl, .of ho6, at_int (i := 1 + (i : Int)) (by omega) (by rw [show (1 + (i : Int)).toNat = i + 1 by omega]; exact hy), by show 2 ≤ sizeLine; omega, fun m hm => ?_⟩
      have hL7 : upd H6 m (.tup [.int x, .int y]) L = some (.lst vs) := Ext.upd hm _ _ hL6
      have ho7 : upd H6 m (.tup [.int x, .int y]) O = some (.lst (os.map V.int)) := Ext.upd hm _ _ ho6
      have ly : vs.length = ps.length := by rw [dp.len, List.length_map]
      refine ⟨L, vs, e, _, rfl, rfl, hL7, by omega, e0, by omega, ?_⟩
      have dp7 : DpAll K (upd H6 m (.tup [.int x, .int y])) (vs.take e.toNat ++ [.ref m] ++ vs.drop e.toNat) ((ins ps e.toNat (x, y)).map eP) := by
        rw [← map_ins]
        exact dps_ins (dp6.ext (Ext.upd hm)) (.tup (.of upd_same) (.cons (.int _) (.cons (.int _) .nil))) _
      have npair : ∀ z, ¬ (z, y) ∈ ps := fun z hz => by
        obtain ⟨j, hj, ej⟩ := pj _ hz
        have h1 := List.getElem?_eq_some_iff.mp ej
        have h2 := List.getElem?_eq_some_iff.mp hy
        have := (List.getElem_inj (h₀ := h1.1) (h₁ := h2.1) nd).mp (h1.2.trans h2.2.symm)
        omega
      refine ⟨ins ps e.toNat (x, y), _, _, rfl, ((l6.ext (Ext.upd hm)).put wL).mono (by omega), by rw [upd_ne nLO]; exact ho7, upd_same, DpAll.tu (tu_putL hL7) _ _ (ePs_nlA _) dp7, by rw [len_ins]; omega, nodup_ins pn (npair x), fun q hq => ?_, fun q hq => ?_, fun j j1 j2 => ?_⟩
      · rcases mem_ins.mp hq with rfl | hq
        · exact ⟨ix, iy⟩
        · exact pi q hq
      · rcases mem_ins.mp hq with rfl | hq
        · exact ⟨i + 1, by omega, hy⟩
        · obtain ⟨j, hj, ej⟩ := pj q hq
          exact ⟨j, by omega, ej⟩
      · by_cases c : j = i + 1
        · subst c
          exact ⟨f.toNat, by omega, x, y, hx, hy, mem_ins.mpr (.inl rfl)⟩
        · obtain ⟨a, ha, x', y', e1, e2, e3⟩ := pc j j1 (by omega)
          exact ⟨a, ha, x', y', e1, e2, mem_ins.mpr (.inr e3)⟩
    · rintro σ H4 ⟨ps, vs, v7, rfl, l4, ho4, hL4, dp, lp, pn, pi, pj, pc⟩
      have pok : PsOk (1 + d) o ps := ⟨pn, pi, reach_of ho mem fun j j1 j2 => pc j j1 (by omega)⟩
      have l4' := l4.mono (j := k + 15) (by omega)
      refine ⟨_, rfl, _, rfl, _, _, rfl, rfl, _, _, rfl, p, _, _, H0, rfl, rfl, by omega, by omega, by omega, l4'.p, fun c H5 c0 c1 B5 P5 => ⟨_, rfl, by omega, by omega, ?_⟩⟩
      have l5 := l4'.draw B5 P5
      have ho5 := B5 _ _ wO.ne ho4
      have hL5 := B5 _ _ wL.ne hL4
      have dp5 := DpAll.tu (tu_butL B5 l4.lst) _ _ (ePs_nlA ps) dp
      refine for_range (fun i σ H' => ∃ ps vs v7 v8, σ = [some (.ref p), some (.int 4), some (.int 4), some (.int (1 + d)), some (.ref O), v5, some (.ref L), v7, v8, none] ∧ Pl K p H0 H (k + 16 + 3 * i) H' ∧ H' O = some (.lst (os.map V.int)) ∧ H' L = some (.lst vs) ∧ DpAll K H' vs (ps.map eP) ∧ ps.length ≤ d.toNat + i ∧ PsOk (1 + d) o ps)
        ⟨ps, vs, _, _, rfl, l5.mono (by omega), ho5, hL5, dp5, by omega, pok⟩ ?_ ?_
      · rintro i σ H6 hi ⟨ps, vs, v7, v8, rfl, l6, ho6, hL6, dp6, lp, pok⟩
        have ly : vs.length = ps.length := by rw [dp6.len, List.length_map]
        refine ⟨_, rfl, _, rfl, _, _, rfl, p, _, _, H0, rfl, rfl, by omega, by omega, by omega, l6.p, fun x H7 x0 x1 B7 P7 => ?_⟩
        have l7 := l6.draw B7 P7
        refine ⟨_, rfl, _, rfl, _, _, rfl, p, _, _, H0, rfl, rfl, by omega, by omega, by omega, l7.p, fun y H8 y0 y1 B8 P8 => ⟨by show 2 ≤ sizeLine; omega, fun m hm => ?_⟩⟩
        have l8 := (l7.draw B8 P8).ext (Ext.upd hm (o := .tup [.int x, .int y]))
        have ho8 := Ext.upd hm (o := .tup [.int x, .int y]) _ _ (B8 _ _ wO.ne (B7 _ _ wO.ne ho6))
        have hL8 := Ext.upd hm (o := .tup [.int x, .int y]) _ _ (B8 _ _ wL.ne (B7 _ _ wL.ne hL6))
        have dp8 := (DpAll.tu (Tu.trans (tu_butL B7 l6.lst) (tu_butL B8 l7.lst)) _ _ (ePs_nlA ps) dp6).ext (Ext.upd hm (o := .tup [.int x, .int y]))
        have dm : Dp K (upd H8 m (.tup [.int x, .int y])) (.ref m) (eP (x, y)) := .tup (.of upd_same) (.cons (.int _) (.cons (.int _) .nil))
        refine ⟨_, rfl, _, rfl, eP (x, y), _, dm, .lst (.of hL8) dp8, (shp_eP _).ed (by decide), (shp_ePl ps).ed (by decide), _, congrArg V.bl (by rw [any_pairs]), ?_⟩
        by_cases hq : (x, y) ∈ ps
        · rw [decide_eq_true hq]
          exact iteF ⟨ps, vs, _, _, rfl, l8.mono (by omega), ho8, hL8, dp8, by omega, pok⟩
        · rw [decide_eq_false hq]
          refine iteT ⟨_, rfl, .inl ⟨rfl, _, .of hL8⟩, _, rfl, _, rfl, _, _, rfl, .inl ⟨_, .of hL8, rfl⟩, _, _, rfl, rfl, _, _, rfl, p, _, _, H0, rfl, rfl, by omega, by omega, by omega, l8.p, fun e H9 e0 e1 B9 P9 => ?_⟩
          have hL9 := B9 _ _ wL.ne hL8
          have dp9 := DpAll.tu (tu_butL B9 l8.lst) _ _ (ePs_nlA ps) dp8
          have dm9 := Dp.tu (tu_butL B9 l8.lst) (eP (x, y)) _ rfl dm
          have dp10 : DpAll K H9 (vs.take e.toNat ++ [.ref m] ++ vs.drop e.toNat) ((ins ps e.toNat (x, y)).map eP) := by
            rw [← map_ins]
            exact dps_ins dp9 dm9 _
          refine ⟨_, rfl, L, vs, e, _, rfl, rfl, hL9, by omega, e0, by omega, ?_⟩
          exact ⟨_, _, _, _, rfl, ((l8.draw B9 P9).put wL).mono (by omega), by rw [upd_ne nLO]; exact B9 _ _ wO.ne ho8, upd_same, DpAll.tu (tu_putL hL9) _ _ (ePs_nlA _) dp10, by rw [len_ins]; omega, pok.ins _ hq ⟨x0, x1⟩ ⟨y0, y1⟩⟩
      · rintro σ H6 ⟨ps, vs, v7, v8, rfl, l6, ho6, hL6, dp6, lp, pok⟩
        have l6' := l6.mono (j := k + 40) (by omega)
        refine ⟨_, rfl, _, rfl, by omega, by omega, fun G hG => ?_⟩
        have wG := l6'.nw hG
        have nGO : O ≠ G := ne_of_none ho6 hG
        have nGL : L ≠ G := ne_of_none hL6 hG
        refine lc_range (fun i H' => Pl K p H0 H (k + 40 + i) H' ∧ H' O = some (.lst (os.map V.int)) ∧ H' L = some (.lst vs) ∧ DpAll K H' vs (ps.map eP) ∧ ∃ gs : List Int, H' G = some (.lst (gs.map V.int)) ∧ (∀ g ∈ gs, InR (1 + d) g) ∧ gs.length ≤ i)
          ⟨(l6'.put wG).mono (by omega), by rw [upd_ne nGO]; exact ho6, by rw [upd_ne nGL]; exact hL6, dp6.ext (Ext.upd hG), [], upd_same, by simp, Nat.le_refl _⟩ ?_ ?_
        · rintro i H7 hi ⟨l7, ho7, hL7, dp7, gs, hG7, gi, gl⟩
          refine ⟨rfl, _, rfl, _, _, rfl, p, _, _, H0, rfl, rfl, by omega, by omega, by omega, l7.p, fun e H8 e0 e1 B8 P8 => ?_⟩
          have l8 := l7.draw B8 P8
          have ho8 := B8 _ _ wO.ne ho7
          have hL8 := B8 _ _ wL.ne hL7
          have hG8 := B8 _ _ wG.ne hG7
          have dp8 := DpAll.tu (tu_butL B8 l7.lst) _ _ (ePs_nlA ps) dp7
          refine ⟨rfl, decide (e = 0), congrArg V.bl (decide_eq_decide.mpr (by simp)), ?_⟩
          by_cases c : e = 0
          · rw [decide_eq_true c]
            refine iteT ⟨_, rfl, _, hG8, by rw [List.length_map]; omega, ?_⟩
            refine ⟨(l8.put wG).mono (by omega), by rw [upd_ne nGO]; exact ho8, by rw [upd_ne nGL]; exact hL8, DpAll.tu (tu_putL hG8) _ _ (ePs_nlA _) dp8, gs ++ [0 + (i : Int)], ?_, fun g hg => ?_, by rw [List.length_append, List.length_singleton]; omega⟩
            · rw [upd_same, List.map_append]
              rfl
            · rcases List.mem_append.mp hg with hg | hg
              · exact gi g hg
              · rw [List.mem_singleton.mp hg]
                exact ⟨by omega, by omega⟩
          · rw [decide_eq_false c]
            exact iteF ⟨l8.mono (by omega), ho8, hL8, dp8, gs, hG8, gi, by omega⟩
        · rintro H7 ⟨l7, ho7, hL7, dp7, gs, hG7, gi, gl⟩
          have l7' := l7.mono (j := k + 45) (by omega)
          refine ⟨fun σ' H' => ∃ G gs, σ' = [some (.ref p), some (.int 4), some (.int 4), some (.int (1 + d)), some (.ref O), v5, some (.ref L), v7, v8, some (.ref G)] ∧ Pl K p H0 H (k + 50) H' ∧ H' O = some (.lst (os.map V.int)) ∧ H' L = some (.lst vs) ∧ DpAll K H' vs (ps.map eP) ∧ Nw p H0 H G ∧ O ≠ G ∧ L ≠ G ∧ H' G = some (.lst (gs.map V.int)) ∧ gs ≠ [] ∧ (∀ g ∈ gs, InR (1 + d) g) ∧ gs.length ≤ 4, ?_, ?_⟩
          · refine ⟨_, rfl, Nat.zero_le _, fun E hE => ⟨.list (gs.map PyData.int), .list [], .lst (.of (Ext.upd hE _ _ hG7)) (DpAll.ints gs), .lst (.of upd_same) .nil, (shp_ints gs).ed (by decide), by decide +kernel, _, congrArg V.bl (eqv_nil gs), ?_⟩⟩
            have ho8 := Ext.upd hE (o := .lst []) _ _ ho7
            have hL8 := Ext.upd hE (o := .lst []) _ _ hL7
            have hG8 := Ext.upd hE (o := .lst []) _ _ hG7
            have l8 := l7'.ext (Ext.upd hE (o := .lst []))
            have dp8 := dp7.ext (Ext.upd hE (o := .lst []))
            by_cases c : gs = []
            · rw [decide_eq_true c]
              refine iteT ⟨_, rfl, _, rfl, _, _, rfl, p, _, _, H0, rfl, rfl, by omega, by omega, by omega, l8.p, fun e H9 e0 e1 B9 P9 => ⟨by show 1 ≤ sizeLine; omega, fun G2 hG2 => ?_⟩⟩
              have l9 := l8.draw B9 P9
              have ho9 := B9 _ _ wO.ne ho8
              have hL9 := B9 _ _ wL.ne hL8
              have dp9 := DpAll.tu (tu_butL B9 l8.lst) _ _ (ePs_nlA ps) dp8
              exact ⟨G2, [e], rfl, (l9.ext (Ext.upd hG2)).mono (by omega), Ext.upd hG2 _ _ ho9, Ext.upd hG2 _ _ hL9, dp9.ext (Ext.upd hG2), l9.nw hG2, ne_of_none ho9 hG2, ne_of_none hL9 hG2, upd_same, by simp, fun g hg => by rw [List.mem_singleton.mp hg]; exact ⟨e0, e1⟩, by show 1 ≤ 4; omega⟩
            · rw [decide_eq_false c]
              exact iteF ⟨G, gs, rfl, l8.mono (by omega), ho8, hL8, dp8, wG, nGO, nGL, hG8, c, gi, by omega⟩
          · rintro σ H8 ⟨G, gs, rfl, l8, ho8, hL8, dp8, wG, nGO, nGL, hG8, gne, gi, gl⟩
            refine ⟨_, rfl, _, rfl, by omega, by omega, for_range (fun i σ H' => ∃ ps vs gs v5, σ = [some (.ref p), some (.int 4), some (.int 4), some (.int (1 + d)), some (.ref O), v5, some (.ref L), v7, v8, some (.ref G)] ∧ Pl K p H0 H (k + 50 + 4 * i) H' ∧ H' O = some (.lst (os.map V.int)) ∧ H' L = some (.lst vs) ∧ DpAll K H' vs (ps.map eP) ∧ H' G = some (.lst (gs.map V.int)) ∧
              gs ≠ [] ∧ (∀ g ∈ gs, InR (1 + d) g) ∧ gs.length ≤ 4 + i ∧ ps.length ≤ 7 + i ∧ PsOk (1 + d) o ps ∧ ∀ j : Int, InR i j → ∀ ks, Back ps gs ks → j ∈ ks)
              ⟨ps, vs, gs, _, rfl, l8.mono (by omega), ho8, hL8, dp8, hG8, gne, gi, by omega, by omega, pok, fun j z => by have := z.1; have := z.2; omega⟩ ?_ ?_⟩
            · rintro i σ H9 hi ⟨ps, vs, gs, v5, rfl, l9, ho9, hL9, dp9, hG9, gne, gi, gl, lp, pok, cl⟩
              have ly : vs.length = ps.length := by rw [dp9.len, List.length_map]
              refine ⟨_, rfl, _, rfl, _, rfl, _, _, rfl, ps, G, gs, .lst (.of hL9) dp9, rfl, .of hG9, by omega, by omega, fun M ms H10 x10 hM snd sub cm => ⟨M, _, rfl, .inl (.of hM), rfl, flat_ints _, _, rfl, ?_⟩⟩
              have l10 := l9.ext x10
              have ho10 := x10 _ _ ho9
              have hL10 := x10 _ _ hL9
              have hG10 := x10 _ _ hG9
              have dp10 := dp9.ext x10
              show if (!inV (V.int (0 + (i : Int))) (ms.map V.int)) = true then _ else _
              rw [inV_ints, show (0 + (i : Int)) = i by omega]
              by_cases c : (i : Int) ∈ ms
              · rw [decide_eq_true c]
                refine iteF ⟨ps, vs, gs, _, rfl, l10.mono (by omega), ho10, hL10, dp10, hG10, gne, gi, by omega, by omega, pok, fun j z ks hb => ?_⟩
                by_cases cj : j = i
                · rw [cj]
                  exact snd ks hb _ c
                · exact cl j ⟨z.1, by have := z.2; omega⟩ ks hb
              · rw [decide_eq_false c]
                refine iteT ⟨_, rfl, _, _, rfl, p, _, _, H0, rfl, rfl, by omega, by omega, by omega, l10.p, fun e H11 e0 e1 B11 P11 => ⟨rfl, decide (e = 0), congrArg V.bl (decide_eq_decide.mpr (by simp)), ?_⟩⟩
                have l11 := l10.draw B11 P11
                have ho11 := B11 _ _ wO.ne ho10
                have hL11 := B11 _ _ wL.ne hL10
                have hG11 := B11 _ _ wG.ne hG10
                have dp11 := DpAll.tu (tu_butL B11 l10.lst) _ _ (ePs_nlA ps) dp10
                have iI : InR (1 + d) i := ⟨by omega, by omega⟩
                by_cases c2 : e = 0
                · rw [decide_eq_true c2]
                  refine iteT ⟨_, rfl, .inl ⟨rfl, _, .of hL11⟩, _, rfl, _, rfl, _, _, rfl, .inl ⟨_, .of hL11, rfl⟩, _, _, rfl, rfl, _, _, rfl, p, _, _, H0, rfl, rfl, by omega, by omega, by omega, l11.p, fun f H12 f0 f1 B12 P12 => ?_⟩
                  have l12 := l11.draw B12 P12
                  have ho12 := B12 _ _ wO.ne ho11
                  have hL12 := B12 _ _ wL.ne hL11
                  have hG12 := B12 _ _ wG.ne hG11
                  have dp12 := DpAll.tu (tu_butL B12 l11.lst) _ _ (ePs_nlA ps) dp11
                  have lg0 : 0 < gs.length := List.length_pos_iff.mpr gne
                  refine ⟨_, rfl, _, rfl, _, rfl, _, rfl, _, _, rfl, .inl ⟨_, .of hG12, rfl⟩, _, _, rfl, p, _, _, H0, rfl, rfl, by rw [List.length_map]; omega, by rw [List.length_map]; omega, by omega, l12.p, fun g H13 g0 g1 B13 P13 => ?_⟩
                  rw [List.length_map] at g1
                  have l13 := l12.draw B13 P13
                  have ho13 := B13 _ _ wO.ne ho12
                  have hL13 := B13 _ _ wL.ne hL12
                  have hG13 := B13 _ _ wG.ne hG12
                  have dp13 := DpAll.tu (tu_butL B13 l12.lst) _ _ (ePs_nlA ps) dp12
                  obtain ⟨x, hx⟩ : ∃ x, gs[g.toNat]? = some x := ⟨gs[g.toNat]'(by omega), List.getElem?_eq_getElem _⟩
                  have mx : x ∈ gs := List.mem_of_getElem? hx
                  refine ⟨G, _, g, _, rfl, rfl, .of hG13, at_int g0 hx, by show 2 ≤ sizeLine; omega, fun m hm => ?_⟩
                  have x14 := Ext.upd hm (o := .tup [.int (i : Int), .int x])
                  have hL14 := x14 _ _ hL13
                  have dm : Dp K (upd H13 m (.tup [.int (i : Int), .int x])) (.ref m) (eP ((i : Int), x)) := by
                    exact .tup (.of upd_same) (.cons (.int _) (.cons (.int _) .nil))
                  have dp14 : DpAll K (upd H13 m (.tup [.int (i : Int), .int x])) (vs.take f.toNat ++ [.ref m] ++ vs.drop f.toNat) ((ins ps f.toNat ((i : Int), x)).map eP) := by
                    rw [← map_ins]
                    exact dps_ins (dp13.ext x14) dm _
                  have nq : ¬ ((i : Int), x) ∈ ps := fun z => c (cm _ z mx)
                  refine ⟨L, vs, f, _, rfl, rfl, hL14, by omega, f0, by omega, ?_⟩
                  refine ⟨_, _, gs, _, rfl, ((l13.ext x14).put wL).mono (by omega), by rw [upd_ne nLO]; exact x14 _ _ ho13, upd_same, DpAll.tu (tu_putL hL14) _ _ (ePs_nlA _) dp14, by rw [upd_ne nGL.symm]; exact x14 _ _ hG13, gne, gi, by omega, by rw [len_ins]; omega, pok.ins _ nq iI (gi x mx), fun j z ks hb => ?_⟩
                  have hb' : Back ps gs ks := ⟨hb.1, fun p hp => hb.2 p (mem_ins.mpr (.inr hp))⟩
                  by_cases cj : j = i
                  · rw [cj]
                    exact hb.2 _ (mem_ins.mpr (.inl rfl)) (hb.1 x mx)
                  · exact cl j ⟨z.1, by have := z.2; omega⟩ ks hb'
                · rw [decide_eq_false c2]
                  refine iteF ⟨_, rfl, .inl ⟨rfl, _, .of hG11⟩, _, rfl, _, rfl, _, _, rfl, .inl ⟨_, .of hG11, rfl⟩, _, _, rfl, rfl, _, _, rfl, p, _, _, H0, rfl, rfl, by omega, by rw [List.length_map]; omega, by omega, l11.p, fun f H12 f0 f1 B12 P12 => ?_⟩
                  have l12 := l11.draw B12 P12
                  have ho12 := B12 _ _ wO.ne ho11
                  have hL12 := B12 _ _ wL.ne hL11
                  have hG12 := B12 _ _ wG.ne hG11
                  have dp12 := DpAll.tu (tu_butL B12 l11.lst) _ _ (ePs_nlA ps) dp11
                  refine ⟨_, rfl, G, _, f, _, rfl, rfl, hG12, by rw [List.length_map]; omega, f0, by rw [List.length_map] at f1; omega, ?_⟩
                  refine ⟨ps, vs, ins gs f.toNat (i : Int), _, rfl, (l12.put wG).mono (by omega), by rw [upd_ne nGO]; exact ho12, by rw [upd_ne nGL]; exact hL12, DpAll.tu (tu_putL hG12) _ _ (ePs_nlA _) dp12, ?_, fun z => ?_, fun g hg => ?_, by rw [len_ins]; omega, by omega, pok, fun j z ks hb => ?_⟩
                  · rw [upd_same, ← map_ins]
                  · have := congrArg List.length z
                    rw [len_ins] at this
                    cases this
                  · rcases mem_ins.mp hg with rfl | hg
                    · exact iI
                    · exact gi g hg
                  · have hb' : Back ps gs ks := ⟨fun g hg => hb.1 g (mem_ins.mpr (.inr hg)), hb.2⟩
                    by_cases cj : j = i
                    · rw [cj]
                      exact hb.1 _ (mem_ins.mpr (.inl rfl))
                    · exact cl j ⟨z.1, by have := z.2; omega⟩ ks hb'
            · rintro σ H9 ⟨ps, vs, gs, v5, rfl, l9, ho9, hL9, dp9, hG9, gne, gi, gl, lp, pok, cl⟩
              rw [hnn] at cl
              have l9' := l9.mono (j := k + 200) (by omega)
              refine ⟨_, rfl, _, rfl, _, rfl, O, _, 0, _, rfl, rfl, .of ho9, at_int (Int.le_refl _) ho, _, rfl, by show 4 ≤ sizeLine; omega, fun m hm => ?_⟩
              have nm := l9'.nw hm
              have x10 := Ext.upd hm (o := .tup [.int (1 + d), .ref L, .int o, .ref G])
              obtain ⟨pl, hpl⟩ := l9.lst
              have e10 : Off p (upd H9 m (.tup [.int (1 + d), .ref L, .int o, .ref G])) = upd (Off p H9) m (.tup [.int (1 + d), .ref L, .int o, .ref G]) := off_upd nm.ne
              have hmo : Off p H9 m = none := by rw [off_ne nm.ne]; exact hm
              have xo := Ext.upd hmo (o := .tup [.int (1 + d), .ref L, .int o, .ref G])
              have dpo : DpAll K (Off p H9) vs (ps.map eP) := DpAll.tu (tu_offL hpl) _ _ (ePs_nlA _) dp9
              refine q (.ref m) (1 + d) ps o gs _ (l9'.ext x10).b (l9'.ext x10).p ?_ ⟨by omega, by omega, by omega, pok.nd, pok.ip, (mem o).mp (List.mem_of_getElem? ho), gne, gi, by omega, pok.ro, ?_⟩ (by omega) (by omega) (by omega)
              · rw [e10]
                refine .tup (.of upd_same) (.cons (.int _) (.cons (.lst (.of (xo _ _ ?_)) (dpo.ext xo)) (.cons (.int _) (.cons (.lst (.of (xo _ _ ?_)) (DpAll.ints gs)) .nil))))
                · rw [off_ne wL.ne]
                  exact hL9
                · rw [off_ne wG.ne]
                  exact hG9
              · intro k hk ks h1 h2
                exact cl k hk ks ⟨h1, h2⟩
end
end Sv
namespace Sv
open PySem PySem.Spec PyProof.Rows L2
/-! ### totals, seats, prices drawn -/
section
variable {g : TG} {tb : TS} {D : Ends} {σ : L2.St} {H : Hp} {d : Addr} {o : Obj} {ks : List Key} {F : Key → V}
theorem for_keysK (Pv : Nat → L2.St → Hp → Prop) (h0 : Pv 0 σ H) (hl : ∀ i σ H', Pv i σ H' → H' d = some (.frz o (.dK (dG ks F))))
    (hs : ∀ i a σ H, ks[i]? = some a → Pv i σ H → g (kV a) σ H fun σ2 H2 => tb { D with nx := Pv (i + 1), ct := Pv (i + 1), bk := D.nx } σ2 H2) (hd : ∀ σ H, Pv ks.length σ H → D.nx σ H) :
    ∃ W : Nat → Nat → L2.St → Hp → Prop, (∃ m, W 0 m σ H) ∧ ∀ i m σ H, W i m σ H →
      ((Itk d o (dG ks F)).stop i H ∧ D.nx σ H) ∨ ((Itk d o (dG ks F)).go i H ∧ ∃ N : L2.St → Hp → Prop, (∀ σ' H', N σ' H' → ∃ m', m' < m ∧ W (i + 1) m' σ' H') ∧ ∀ x H', (Itk d o (dG ks F)).yld i H x H' → g x σ H' fun σ2 H2 => tb { D with nx := N, ct := N, bk := D.nx } σ2 H2) := by
  refine ⟨fun i m σ H => m = ks.length - i ∧ i ≤ ks.length ∧ Pv i σ H, ⟨ks.length, rfl, Nat.zero_le _, h0⟩, ?_⟩
  rintro i m σ H1 ⟨rfl, hi, p⟩
  have w1 := hl _ _ _ p
  have ll : (dG ks F).length = ks.length := by rw [dg_len]
  rcases Nat.lt_or_ge i ks.length with c | c
  · have hx : ks[i]? = some ks[i] := List.getElem?_eq_getElem c
    refine .inr ⟨⟨w1, by rw [ll]; exact c⟩, Pv (i + 1), fun σ' H' p' => ⟨ks.length - (i + 1), by omega, rfl, c, p'⟩, fun x H' y => ?_⟩
    obtain ⟨rfl, k, v, e1, rfl⟩ := y
    unfold dG at e1
    rw [List.getElem?_map, hx] at e1
    cases e1
    exact hs i _ _ _ hx p
  · obtain rfl : i = ks.length := Nat.le_antisymm hi c
    exact .inl ⟨⟨w1, by rw [ll]; exact c⟩, hd _ _ p⟩
end
/-- a dict of names to lists of places -/
def SeatsL (K : PySem.W.Frag) (H : Hp) (d : Addr) (ss : SL) : Prop := ∃ F : Key → V, H d = some (.dK (dG (sk ss) F)) ∧ ∀ s ∈ ss, ∃ a, F (Sum.inr s.1) = .ref a ∧ H a = some (.lst (s.2.map V.int))
theorem SeatsL.ext {K : PySem.W.Frag} {H H' : Hp} {d : Addr} {ss : SL} (h : SeatsL K H d ss) (e : Ext H H') : SeatsL K H' d ss := by
  obtain ⟨F, h1, h2⟩ := h
  exact ⟨F, e _ _ h1, fun s hs => (h2 s hs).imp fun a z => ⟨z.1, e _ _ z.2⟩⟩
theorem osum_snoc (l : List (Option Int)) (o : Option Int) : osum (l ++ [o]) = oadd (osum l) o := by
  rw [osum_app, osum_cons, osum_nil, oadd_comm o, oadd_zero]
section
variable {P : Program} {w : World} {K : PySem.W.Frag} {mg : PySem.Str → Option Value} {base : Heap}
def spLTotal (K : PySem.W.Frag) : Sp := sp3 fun x y z H Q => ∃ n ps o gs d ss sv bk, Dp K H x (toldD n ps o gs) ∧ y = .ref d ∧ SeatsL K H d ss ∧ Dp K H z (prD sv bk) ∧ 0 ≤ n ∧ n ≤ 4 ∧ ps.length ≤ 80 ∧ (∀ g ∈ gs, InR n g) ∧ sv.length = (gatesW ps o (exits n gs)).length ∧ bk.length = (gatesW ps o (exits n gs)).length ∧ 
  ∀ H', Ext H H' → Q (oV (totL ⟨n, ps, o, exits n gs⟩ ss sv bk)) H'
theorem sc_law_total : FnScope ["_law_told", "_law_seats_here", "_law_prices_here", "_law_total_here", "_law_name", "_law_least_here"] ["_law_told", "_law_seats_here", "_law_prices_here"] (defScope s_law_total) := ⟨rfl, rfl, rfl, by decide +kernel, rfl, by decide +kernel, by decide +kernel⟩
theorem c_law_total (T : Txt K mg) : C8.Cal P w K mg base 6 "_law_total" (spLTotal K) [] := by
  obtain ⟨fd, F⟩ := T.f_law_total
  refine calN F T.g_law_total sc_law_total (F.bindsN fun _ _ _ _ _ _ us hl => match us, hl with | [_, _, _], _ => rfl) len3 (fun cdv A outer s H vs Q E hr h => ?_)
  refine ⟨_, (pss_cons (ps_set (i := 3) sc_law_total.nd rfl (by first | exact Or.inl rfl | exact Or.inr rfl) pe_int)
      (pss_cons (ps_lock (ps_for PassesOwn.never rfl (pi_keys (pv 1)) (pg_name (i := 4) sc_law_total.nd rfl (by first | exact Or.inl rfl | exact Or.inr rfl))
      (pss_cons (ps_set (i := 5) sc_law_total.nd rfl (by first | exact Or.inl rfl | exact Or.inr rfl) (C8.pe_c (c_law_least T) hr (by decide) rfl (pa_cons (pv 0) (pa_cons (pe_dget (hu_of hr) (pv 1) (pv 4) (fun _ _ => rfl)) (pa_cons (pv 2) pa_nil)))))
      (pss_cons (ps_if (pt_cmpR op_isN (pv 5) pe_non (nomark _)) (pss_one (ps_ret pe_non))
      pss_nil)
      (pss_one (ps_set (i := 3) sc_law_total.nd rfl (by first | exact Or.inl rfl | exact Or.inr rfl) (pe_op op_add (pv 3) (pv 5))))))))
      (pss_one (ps_ret (pv 3))))), ?_⟩
  -- slots: 0:_law_told 1:_law_seats_here 2:_law_prices_here 3:_law_total_here 4:_law_name 5:_law_least_here
  obtain ⟨x, y, z, rfl, n, ps, o, gs, d, ss, sv, bk, dp, rfl, ⟨F, hd, hF⟩, dpr, n0, n4, lp, gi, ls, lb, q⟩ := h
  have lsk : (sk ss).length = ss.length := List.length_map _
  refine ⟨d, _, hd, True.intro, fun od => ?_⟩
  have c0 := Le.lock (o := od) hd True.intro (by intro _ _ _ z; cases z)
  have hd0 : upd H d (.frz od (.dK (dG (sk ss) F))) d = some (.frz od (.dK (dG (sk ss) F))) := upd_same
  have uex : ∀ H', Ext (upd H d (.frz od (.dK (dG (sk ss) F)))) H' → Ext H (upd H' d (.dK (dG (sk ss) F))) := fun H' x => unlock_ext hd x
  generalize upd H d (.frz od (.dK (dG (sk ss) F))) = H0 at hd0 c0 uex ⊢
  have dp0 := Dp.le c0 _ _ dp
  have dpr0 := Dp.le c0 _ _ dpr
  refine ⟨_, rfl, d, od, rfl, .inl ⟨_, hd0, for_keysK (fun i σ H' => ∃ tot v4 v5, σ = [some x, some (.ref d), some z, some (.int tot), v4, v5] ∧ Ext H0 H' ∧ osum ((ss.take i).map fun s => leastL (gatesW ps o (exits n gs)) sv bk s.2 n.toNat) = some tot) ⟨0, _, _, rfl, Ext.rfl', rfl⟩ (fun i σ H' z => by obtain ⟨_, _, _, _, x, _⟩ := z; exact x _ _ hd0) ?_ ?_⟩⟩
  · rintro i a σ H' hi ⟨tot, v4, v5, rfl, x1, et⟩
    unfold sk at hi
    rw [List.getElem?_map] at hi
    obtain ⟨s, hs, rfl⟩ := Option.map_eq_some_iff.mp hi
    have ms : s ∈ ss := List.mem_of_getElem? hs
    obtain ⟨b, eb, sb⟩ := hF s ms
    have hm : (Sum.inr s.1 : Key) ∈ sk ss := mem_sk.mpr (List.mem_map.mpr ⟨s, ms, rfl⟩)
    have get : DGet H' d (V.str s.1) (some (F (Sum.inr s.1))) := .inl ⟨_, Sum.inr s.1, .inr ⟨od, x1 _ _ hd0⟩, rfl, by rw [dg_val, if_pos hm]⟩
    refine ⟨_, rfl, _, rfl, _, rfl, d, _, rfl, get, ?_⟩
    rw [eb]
    refine ⟨_, rfl, _, _, _, rfl, n, ps, o, gs, b, s.2, sv, bk, dp0.ext x1, rfl, (SqL.le (.of sb) c0).ext x1, dpr0.ext x1, n0, n4, lp, gi, ls, lb, fun H2 x2 => ?_⟩
    have x12 := x1.trans x2
    have e1 : (ss.take (i + 1)).map (fun s => leastL (gatesW ps o (exits n gs)) sv bk s.2 n.toNat) = (ss.take i).map (fun s => leastL (gatesW ps o (exits n gs)) sv bk s.2 n.toNat) ++ [leastL (gatesW ps o (exits n gs)) sv bk s.2 n.toNat] := by
      rw [List.take_add_one, hs, List.map_append]
      rfl
    cases hc : leastL (gatesW ps o (exits n gs)) sv bk s.2 n.toNat with
    | none =>
      refine ⟨_, rfl, rfl, true, rfl, iteT ⟨x12 _ _ hd0, ?_⟩⟩
      have z := q _ (uex _ x12)
      rw [show totL ⟨n, ps, o, exits n gs⟩ ss sv bk = none from os_none (List.mem_map.mpr ⟨s, ms, hc⟩)] at z
      exact z
    | some c =>
      refine ⟨_, rfl, rfl, false, rfl, iteF ⟨_, rfl, _, rfl, tot, c, rfl, rfl, _, _, _, rfl, x12, ?_⟩⟩
      rw [e1, osum_snoc, et, hc]
      rfl
  · rintro σ H' ⟨tot, v4, v5, rfl, x1, et⟩
    refine ⟨x1 _ _ hd0, _, rfl, ?_⟩
    have z := q _ (uex _ x1)
    rw [lsk, List.take_length] at et
    rw [show totL ⟨n, ps, o, exits n gs⟩ ss sv bk = some tot from et] at z
    exact z
/-- a comprehension that draws -/
theorem lcP_range {α : Type} (nd : Prop) (r : α → V) (R : α → Prop) {p D : Addr} {H0 H H1 : Hp} {k c : Int} {m : Nat} {g : TG} {tt : TT} {te : TE} {vs : List Nat} {σ : L2.St} {Qd : Hp → Prop} (l : Pl K p H0 H k H1) (n : H1 D = none) (hm : m ≤ 1000)
    (hs : ∀ i H' (Nx : Hp → Prop), i < m → But p H1 H' → PoolAt K p H0 (k + c * i) H' → (¬ nd → ∀ H'', But p H' H'' → PoolAt K p H0 (k + c * (i + 1)) H'' → Nx H'') → (∀ x H'', R x → But p H' H'' → PoolAt K p H0 (k + c * (i + 1)) H'' → ∃ acc, H'' D = some (.lst acc) ∧ acc.length < sizeLine ∧ Nx (upd H'' D (.lst (acc ++ [r x])))) →
      g (.int (0 + i)) (wipe σ vs) H' fun σ2 H2 => wipe σ2 vs = wipe σ vs ∧ tt σ2 H2 fun b H3 =>
      if b = true then te σ2 H3 fun y H4 => ∃ acc, H4 D = some (.lst acc) ∧ acc.length < sizeLine ∧ Nx (upd H4 D (.lst (acc ++ [y]))) else Nx H3)
    (hd : ∀ H' (xs : List α), But p H1 H' → PoolAt K p H0 (k + c * m) H' → H' D = some (.lst (xs.map r)) → (∀ x ∈ xs, R x) → xs.length ≤ m → (nd → xs.length = m) → Qd H') :
    ∃ W : Nat → Nat → Hp → Prop, (∃ k, W 0 k (upd H1 D (.lst []))) ∧ ∀ i k H, W i k H →
      ((Itr 0 m).stop i H ∧ Qd H) ∨ ((Itr 0 m).go i H ∧ ∃ Nx : Hp → Prop, (∀ H', Nx H' → ∃ m', m' < k ∧ W (i + 1) m' H') ∧ ∀ x H', (Itr 0 m).yld i H x H' → g x (wipe σ vs) H' fun σ2 H2 => wipe σ2 vs = wipe σ vs ∧ tt σ2 H2 fun b H3 =>
        if b = true then te σ2 H3 fun y H4 => ∃ acc, H4 D = some (.lst acc) ∧ acc.length < sizeLine ∧ Nx (upd H4 D (.lst (acc ++ [y]))) else Nx H3) := by
  have lin : 2000 < sizeLine := by rw [sizeLine_eq]; omega
  have w := l.nw n
  refine lc_range (fun i H' => But p H1 H' ∧ PoolAt K p H0 (k + c * i) H' ∧ ∃ xs : List α, H' D = some (.lst (xs.map r)) ∧ (∀ x ∈ xs, R x) ∧ xs.length ≤ i ∧ (nd → xs.length = i)) ⟨fun a u ne e => by rw [upd_ne (ne_of_none e n)]; exact e, ?_, [], upd_same, by simp, Nat.le_refl _, fun _ => rfl⟩ ?_ ?_
  · have := l.p.put (o := .lst []) w.ne w.n0
    simpa using this
  · rintro i H' hi ⟨b, q, xs, hx, hR, lx, le⟩
    refine hs i H' _ hi b q (fun nn H'' b2 q2 => ⟨b.trans b2, by simpa using q2, xs, b2 _ _ w.ne hx, hR, by omega, fun z => absurd z nn⟩) fun x H'' rx b2 q2 => ⟨_, b2 _ _ w.ne hx, by rw [List.length_map]; omega, ?_⟩
    refine ⟨(b.trans b2).putN n, by simpa using q2.put (o := .lst (xs.map r ++ [r x])) w.ne w.n0, xs ++ [x], by rw [upd_same, List.map_append]; rfl, fun y hy => ?_, by rw [List.length_append, List.length_singleton]; omega, fun z => by rw [List.length_append, List.length_singleton, le z]⟩
    rcases List.mem_append.mp hy with hy | hy
    · exact hR y hy
    · rw [List.mem_singleton.mp hy]
      exact rx
  · rintro H' ⟨b, q, xs, hx, hR, lx, le⟩
    exact hd H' xs b q hx hR lx le
def spSome (K : PySem.W.Frag) : Sp := sp2 fun x y H Q => ∃ p k H0 n, x = .ref p ∧ y = .int n ∧ 0 ≤ n ∧ n ≤ 4 ∧ 0 ≤ k ∧ k < 10000 ∧ PoolAt K p H0 k H ∧
  ∀ L (us : List Int) H', H L = none → But p H H' → PoolAt K p H0 (k + 10) H' → H' L = some (.lst (us.map V.int)) → (∀ u ∈ us, InR n u) → us.length ≤ 4 → Q (.ref L) H'
def spPrice (K : PySem.W.Frag) : Sp := sp1 fun x H Q => ∃ p k H0, x = .ref p ∧ 0 ≤ k ∧ k < 10000 ∧ PoolAt K p H0 k H ∧ ∀ o H', But p H H' → PoolAt K p H0 (k + 5) H' → OkP o → Q (oV o) H'
def spPrices (K : PySem.W.Frag) : Sp := sp2 fun x y H Q => ∃ p k H0 n ps o gs, x = .ref p ∧ 0 ≤ k ∧ k < 5000 ∧ PoolAt K p H0 k H ∧ Dp K (Off p H) y (toldD n ps o gs) ∧ 0 ≤ n ∧ n ≤ 4 ∧ ps.length ≤ 11 ∧ (∀ g ∈ gs, InR n g) ∧
  ∀ v (sv bk : List (Option Int)) H', But p H H' → PoolAt K p H0 (k + 300) H' → Dp K (Off p H') v (prD sv bk) → sv.length = (gatesW ps o (exits n gs)).length → bk.length = (gatesW ps o (exits n gs)).length → (∀ o ∈ sv, OkP o) → (∀ o ∈ bk, OkP o) → Q v H'
theorem sc_law_some : FnScope ["_law_pool_here", "_law_count", "_law_wide", "_law_place"] ["_law_pool_here", "_law_count"] (defScope s_law_some) := ⟨rfl, rfl, rfl, by decide +kernel, rfl, by decide +kernel, by decide +kernel⟩
theorem c_law_some (T : Txt K mg) : C8.Cal P w K mg base 2 "_law_some" (spSome K) [] := by
  obtain ⟨fd, F⟩ := T.f_law_some
  refine calN F T.g_law_some sc_law_some (F.bindsN fun _ _ _ _ _ _ us hl => match us, hl with | [_, _], _ => rfl) len2 (fun cdv A outer s H vs Q E hr h => ?_)
  refine ⟨_, (pss_cons (ps_set (i := 2) sc_law_some.nd rfl (by first | exact Or.inl rfl | exact Or.inr rfl) (pe_op op_add pe_int (C8.pe_c (c_law_draw T) hr (by decide) rfl (pa_cons (pv 0) (pa_cons pe_int pa_nil)))))
      (pss_one (ps_ret (pe_lc (own := [("_law_place", 3)]) (g := gName 3) (tt := _) rfl sc_law_some.nd (pi_range1 (by rfl) T.b_range (pa_cons (pv 1) pa_nil)) (blkOk_by (own := [("_law_place", 3)]) (N := ["_law_pool_here", "_law_count", "_law_wide", "_law_place"]) (sc := defScope s_law_some) (by decide +kernel)) (fun _ _ _ _ _ => pg_name (i := 3) sc_law_some.nd rfl (by first | exact Or.inl rfl | exact Or.inr rfl)) (fun _ _ _ _ _ => pts_one (pt_cmpR op_eq (C8.pe_c (c_law_draw T) hr (by decide) rfl (pa_cons (pv 0) (pa_cons (pv 2) pa_nil))) pe_int (nomark _))) (fun _ _ _ _ _ => (pv 3)))))), ?_⟩
  -- slots: 0:_law_pool_here 1:_law_count 2:_law_wide 3:_law_place
  obtain ⟨x, y, rfl, p, k, H0, n, rfl, rfl, n0, n4, k0, k1, pool, q⟩ := h
  refine ⟨_, rfl, _, _, rfl, p, k, _, H0, rfl, rfl, by omega, by omega, by omega, pool, fun d H1 d0 d1 B1 P1 => ⟨_, _, rfl, rfl, ?_⟩⟩
  have l1 := (Pl.of pool).draw B1 P1
  refine ⟨_, rfl, _, rfl, by omega, by omega, fun D hD => lcP_range (c := 1) False V.int (fun g => InR n g) l1 hD (by omega) ?_ ?_⟩
  · intro i H' Nx hi b pl drop keep
    refine ⟨rfl, _, rfl, _, rfl, _, _, rfl, p, _, _, H0, rfl, rfl, by omega, by omega, by omega, pl, fun e H8 e0 e1 B8 P8 => ?_⟩
    refine ⟨rfl, decide (e = 0), congrArg V.bl (decide_eq_decide.mpr (by simp)), ?_⟩
    by_cases c : e = 0
    · rw [decide_eq_true c]
      refine iteT ⟨_, rfl, keep _ H8 ⟨by omega, by omega⟩ B8 (P8.mono (by omega))⟩
    · rw [decide_eq_false c]
      exact iteF (drop id H8 B8 (P8.mono (by omega)))
  · intro H' xs b pl hx hR lx _
    exact q D xs H' (l1.nw hD).n (B1.trans b) (pl.mono (by omega)) hx hR (by omega)
theorem sc_law_price : FnScope ["_law_pool_here", "_law_way"] ["_law_pool_here"] (defScope s_law_price) := ⟨rfl, rfl, rfl, by decide +kernel, rfl, by decide +kernel, by decide +kernel⟩
theorem c_law_price (T : Txt K mg) : C8.Cal P w K mg base 2 "_law_price" (spPrice K) [] := by
  obtain ⟨fd, F⟩ := T.f_law_price
  refine calN F T.g_law_price sc_law_price (F.bindsN fun _ _ _ _ _ _ us hl => match us, hl with | [_], _ => rfl) len1 (fun cdv A outer s H vs Q E hr h => ?_)
  refine ⟨_, (pss_cons (ps_set (i := 1) sc_law_price.nd rfl (by first | exact Or.inl rfl | exact Or.inr rfl) (C8.pe_c (c_law_draw T) hr (by decide) rfl (pa_cons (pv 0) (pa_cons pe_int pa_nil))))
      (pss_cons (ps_if (pt_cmpR op_eq (pv 1) pe_int (nomark _)) (pss_one (ps_ret pe_non))
      pss_nil)
      (pss_cons (ps_if (pt_cmpR op_eq (pv 1) pe_int (nomark _)) (pss_one (ps_ret (pe_ix ix_list (pe_lst (pa_cons pe_int (pa_cons pe_int (pa_cons (C8.pe_c (c_law_draw T) hr (by decide) rfl (pa_cons (pv 0) (pa_cons pe_int pa_nil))) pa_nil)))) (C8.pe_c (c_law_draw T) hr (by decide) rfl (pa_cons (pv 0) (pa_cons pe_int pa_nil))) (fun _ _ => rfl))))
      pss_nil)
      (pss_one (ps_ret (C8.pe_c (c_law_draw T) hr (by decide) rfl (pa_cons (pv 0) (pa_cons pe_int pa_nil)))))))), ?_⟩
  -- slots: 0:_law_pool_here 1:_law_way
  obtain ⟨x, rfl, p, k, H0, rfl, k0, k1, pool, q⟩ := h
  have lin : 2000 < sizeLine := by rw [sizeLine_eq]; omega
  refine ⟨_, rfl, _, _, rfl, p, k, _, H0, rfl, rfl, by omega, by omega, by omega, pool, fun d H1 d0 d1 B1 P1 => ?_⟩
  have l1 := (Pl.of pool).draw B1 P1
  refine ⟨_, rfl, rfl, decide (d = 0), congrArg V.bl (decide_eq_decide.mpr (by simp)), ?_⟩
  by_cases c : d = 0
  · rw [decide_eq_true c]
    exact iteT (q none H1 l1.b (l1.p.mono (by omega)) fun i z => by cases z)
  · rw [decide_eq_false c]
    refine iteF ⟨_, rfl, rfl, decide (d = 1), congrArg V.bl (decide_eq_decide.mpr (by simp)), ?_⟩
    by_cases c2 : d = 1
    · rw [decide_eq_true c2]
      refine iteT ⟨_, rfl, _, _, rfl, p, _, _, H0, rfl, rfl, by omega, by omega, by omega, l1.p, fun e H2 e0 e1 B2 P2 => ⟨by show 3 ≤ sizeLine; omega, fun L hL => ?_⟩⟩
      have l2 := (l1.draw B2 P2).ext (Ext.upd hL (o := .lst [.int 0, .int 100000, .int e]))
      have nL := (l1.draw B2 P2).nw hL
      refine ⟨_, rfl, _, _, rfl, p, _, _, H0, rfl, rfl, by omega, by omega, by omega, l2.p, fun f H3 f0 f1 B3 P3 => ?_⟩
      have l3 := l2.draw B3 P3
      have hL3 := B3 _ _ nL.ne upd_same
      obtain ⟨x, hx⟩ : ∃ x, [0, 100000, e][f.toNat]? = some x := ⟨[0, 100000, e][f.toNat]'(by show f.toNat < 3; omega), List.getElem?_eq_getElem _⟩
      refine ⟨L, _, f, _, rfl, rfl, .of hL3, at_int (os := [0, 100000, e]) f0 hx, ?_⟩
      have mx := List.mem_of_getElem? hx
      refine q (some x) H3 l3.b (l3.p.mono (by omega)) fun i z => ?_
      cases z
      simp only [List.mem_cons, List.not_mem_nil, or_false] at mx
      omega
    · rw [decide_eq_false c2]
      refine iteF ⟨_, rfl, _, _, rfl, p, _, _, H0, rfl, rfl, by omega, by omega, by omega, l1.p, fun e H2 e0 e1 B2 P2 => ?_⟩
      have l2 := l1.draw B2 P2
      refine q (some e) H2 l2.b (l2.p.mono (by omega)) fun i z => ?_
      cases z
      omega
theorem sc_law_prices : FnScope ["_law_pool_here", "_law_told", "_law_gates_here", "_law_gate"] ["_law_pool_here", "_law_told"] (defScope s_law_prices) := ⟨rfl, rfl, rfl, by decide +kernel, rfl, by decide +kernel, by decide +kernel⟩
theorem c_law_prices (T : Txt K mg) : C8.Cal P w K mg base 3 "_law_prices" (spPrices K) [] := by
  obtain ⟨fd, F⟩ := T.f_law_prices
  refine calN F T.g_law_prices sc_law_prices (F.bindsN fun _ _ _ _ _ _ us hl => match us, hl with | [_, _], _ => rfl) len2 (fun cdv A outer s H vs Q E hr h => ?_)
  refine ⟨_, (pss_cons (ps_set (i := 2) sc_law_prices.nd rfl (by first | exact Or.inl rfl | exact Or.inr rfl) (pe_callB call_len (by rfl) T.b_len (by decide +kernel) (pa_cons (C8.pe_c (c_law_gates T) hr (by decide) rfl (pa_cons (pv 1) pa_nil)) pa_nil)))
      (pss_one (ps_ret (pe_tup (pa_cons (pe_lc (own := [("_law_gate", 3)]) (g := gName 3) (tt := tYes) rfl sc_law_prices.nd (pi_range1 (by rfl) T.b_range (pa_cons (pv 2) pa_nil)) (blkOk_by (own := [("_law_gate", 3)]) (N := ["_law_pool_here", "_law_told", "_law_gates_here", "_law_gate"]) (sc := defScope s_law_prices) (by decide +kernel)) (fun _ _ _ _ _ => pg_name (i := 3) sc_law_prices.nd rfl (by first | exact Or.inl rfl | exact Or.inr rfl)) (fun _ _ _ _ _ => pts_nil) (fun _ _ _ _ _ => (C8.pe_c (c_law_price T) hr (by decide) rfl (pa_cons (pv 0) pa_nil)))) (pa_cons (pe_lc (own := [("_law_gate", 3)]) (g := gName 3) (tt := tYes) rfl sc_law_prices.nd (pi_range1 (by rfl) T.b_range (pa_cons (pv 2) pa_nil)) (blkOk_by (own := [("_law_gate", 3)]) (N := ["_law_pool_here", "_law_told", "_law_gates_here", "_law_gate"]) (sc := defScope s_law_prices) (by decide +kernel)) (fun _ _ _ _ _ => pg_name (i := 3) sc_law_prices.nd rfl (by first | exact Or.inl rfl | exact Or.inr rfl)) (fun _ _ _ _ _ => pts_nil) (fun _ _ _ _ _ => (C8.pe_c (c_law_price T) hr (by decide) rfl (pa_cons (pv 0) pa_nil)))) pa_nil)))))), ?_⟩
  -- slots: 0:_law_pool_here 1:_law_told 2:_law_gates_here 3:_law_gate
  obtain ⟨x, y, rfl, p, k, H0, n, ps, o, gs, rfl, k0, k1, pool, dp, n0, n4, lp, gi, q⟩ := h
  have lin : 2000 < sizeLine := by rw [sizeLine_eq]; omega
  refine ⟨_, rfl, _, rfl, n, ps, o, gs, dp.ext off_le, n0, by omega, by omega, gi, fun R H1 x1 dR => ?_⟩
  have lG : (gatesW ps o (exits n gs)).length ≤ 20 := by
    rw [gatesW_len]
    have := exits_len n gs
    omega
  generalize gatesW ps o (exits n gs) = G at dR lG q
  obtain ⟨_, ys, e1, sR, aR⟩ := dR.lstI
  cases e1
  have ly : ys.length = G.length := by rw [aR.len, List.length_map]
  have l1 := (Pl.of pool).ext x1
  refine ⟨_, _, rfl, .inl ⟨_, sR, rfl⟩, ?_⟩
  rw [ly]
  refine ⟨_, rfl, _, rfl, by omega, by omega, fun D hD => lcP_range (c := 5) True oV OkP l1 hD (by omega) ?_ ?_⟩
  · intro i H' Nx hi b pl drop keep
    exact ⟨rfl, _, rfl, _, rfl, p, _, H0, rfl, by omega, by omega, pl, fun o H8 B8 P8 ok => keep o H8 ok B8 (P8.mono (by omega))⟩
  · intro H2 sv b2 pl2 hx2 hR2 _ lx2
    have l2 := l1.draw b2 pl2
    have wD := l1.nw hD
    refine ⟨_, rfl, _, rfl, by omega, by omega, fun D2 hD2 => lcP_range (c := 5) True oV OkP l2 hD2 (by omega) ?_ ?_⟩
    · intro i H' Nx hi b pl drop keep
      exact ⟨rfl, _, rfl, _, rfl, p, _, H0, rfl, by omega, by omega, pl, fun o H8 B8 P8 ok => keep o H8 ok B8 (P8.mono (by omega))⟩
    · intro H3 bk b3 pl3 hx3 hR3 _ lx3
      have l3 := l2.draw b3 pl3
      have wD2 := l2.nw hD2
      refine ⟨by show 2 ≤ sizeLine; omega, fun m hm => ?_⟩
      have l4 := l3.ext (Ext.upd hm (o := .tup [.ref D, .ref D2]))
      have nm := l3.nw hm
      have hmo : Off p H3 m = none := by rw [off_ne nm.ne]; exact hm
      refine q (.ref m) sv bk _ l4.b (l4.p.mono (by omega)) ?_ (lx2 trivial) (lx3 trivial) hR2 hR3
      rw [off_upd nm.ne]
      refine .tup (.of upd_same) (.cons (.lst (.of (Ext.upd hmo _ _ ?_)) (.os sv)) (.cons (.lst (.of (Ext.upd hmo _ _ ?_)) (.os bk)) .nil))
      · rw [off_ne wD.ne]
        exact b3 _ _ wD.ne hx2
      · rw [off_ne wD2.ne]
        exact hx3
/-- the seats drawn so far -/
structure SdP (p d : Addr) (n : Int) (H : Hp) (ss : SL) : Prop where
  at_ : ∃ F : Key → V, H d = some (.dK (dG (sk ss) F)) ∧ ∀ s ∈ ss, ∃ a, F (Sum.inr s.1) = .ref a ∧ a ≠ p ∧ H a = some (.lst (s.2.map V.int))
  nd : (ss.map Prod.fst).Nodup
  gn : ∀ s ∈ ss, GoodN s.1
  ip : ∀ s ∈ ss, ∀ k ∈ s.2, InR n k
  lu : ∀ s ∈ ss, s.2.length ≤ 4
theorem SdP.but {p d : Addr} {n : Int} {H H' : Hp} {ss : SL} (h : SdP p d n H ss) (b : But p H H') (nd : d ≠ p) : SdP p d n H' ss := by
  obtain ⟨⟨F, h1, h2⟩, a, b', c, e⟩ := h
  exact ⟨⟨F, b _ _ nd h1, fun s hs => (h2 s hs).imp fun x z => ⟨z.1, z.2.1, b _ _ z.2.1 z.2.2⟩⟩, a, b', c, e⟩
def putS (ss : SL) (n : PySem.Str) (l : List Int) : SL := if n ∈ ss.map Prod.fst then setS ss n l else ss ++ [(n, l)]
theorem SdP.put {p d L : Addr} {n : Int} {H : Hp} {ss : SL} {x : PySem.Str} {us : List Int} (h : SdP p d n H ss) (gx : GoodN x) (ip : ∀ u ∈ us, InR n u) (lu : us.length ≤ 4) (nL : L ≠ p) (hL : H L = some (.lst (us.map V.int))) :
    ∃ F, H d = some (.dK (dG (sk ss) F)) ∧ SdP p d n (upd H d (.dK (putK (dG (sk ss) F) (Sum.inr x) (.ref L)))) (putS ss x us) := by
  obtain ⟨⟨F, h1, h2⟩, nd, gn, ip', lu'⟩ := h
  refine ⟨F, h1, ?_⟩
  have nLd : L ≠ d := ne_of hL h1 (by intro z; cases z)
  have keep : ∀ s ∈ ss, ∃ a, F (Sum.inr s.1) = .ref a ∧ a ≠ p ∧ ∀ u : HO, upd H d u a = some (.lst (s.2.map V.int)) := fun s hs => by
    obtain ⟨a, e, na, ha⟩ := h2 s hs
    exact ⟨a, e, na, fun u => by rw [upd_ne (ne_of ha h1 (by intro z; cases z))]; exact ha⟩
  unfold putS
  by_cases c : x ∈ ss.map Prod.fst
  · rw [if_pos c, dg_set (.ref L) (mem_sk.mpr c)]
    refine ⟨⟨fun j => if j = Sum.inr x then .ref L else F j, by rw [sk_set, upd_same], fun s hs => ?_⟩, by rw [fst_set]; exact nd, fun s hs => ?_, fun s hs => ?_, fun s hs => ?_⟩
    · rcases mem_set hs with ⟨rfl, _⟩ | ⟨hs, ne⟩
      · exact ⟨L, if_pos rfl, nL, by rw [upd_ne nLd]; exact hL⟩
      · obtain ⟨a, e, na, ha⟩ := keep s hs
        exact ⟨a, by simp only [if_neg (fun z => ne (Sum.inr.inj z) : ¬ (Sum.inr s.1 : Key) = Sum.inr x)]; exact e, na, ha _⟩
    · rcases mem_set hs with ⟨rfl, _⟩ | ⟨hs, _⟩
      · exact gx
      · exact gn s hs
    · rcases mem_set hs with ⟨rfl, _⟩ | ⟨hs, _⟩
      · exact ip
      · exact ip' s hs
    · rcases mem_set hs with ⟨rfl, _⟩ | ⟨hs, _⟩
      · exact lu
      · exact lu' s hs
  · rw [if_neg c, dg_new (.ref L) (fun z => c (mem_sk.mp z))]
    have es : sk ss ++ [(Sum.inr x : Key)] = sk (ss ++ [(x, us)]) := by
      unfold sk
      rw [List.map_append]
      rfl
    rw [es]
    refine ⟨⟨fun j => if j = Sum.inr x then .ref L else F j, upd_same, fun s hs => ?_⟩, by rw [List.map_append]; exact nodup_snoc nd c, fun s hs => ?_, fun s hs => ?_, fun s hs => ?_⟩
    · rcases List.mem_append.mp hs with hs | hs
      · obtain ⟨a, e, na, ha⟩ := keep s hs
        have ne : ¬ (Sum.inr s.1 : Key) = Sum.inr x := fun z => c (List.mem_map.mpr ⟨s, hs, Sum.inr.inj z⟩)
        exact ⟨a, by simp only [if_neg ne]; exact e, na, ha _⟩
      · rw [List.mem_singleton.mp hs]
        exact ⟨L, if_pos rfl, nL, by rw [upd_ne nLd]; exact hL⟩
    · rcases List.mem_append.mp hs with hs | hs
      · exact gn s hs
      · rw [List.mem_singleton.mp hs]
        exact gx
    · rcases List.mem_append.mp hs with hs | hs
      · exact ip' s hs
      · rw [List.mem_singleton.mp hs]
        exact ip
    · rcases List.mem_append.mp hs with hs | hs
      · exact lu' s hs
      · rw [List.mem_singleton.mp hs]
        exact lu
theorem putS_len (ss : SL) (n : PySem.Str) (l : List Int) : (putS ss n l).length ≤ ss.length + 1 ∧ 1 ≤ (putS ss n l).length := by
  unfold putS
  by_cases c : n ∈ ss.map Prod.fst
  · rw [if_pos c]
    have e : (setS ss n l).length = ss.length := List.length_map _
    obtain ⟨s, hs, _⟩ := List.mem_map.mp c
    have := List.length_pos_of_mem hs
    omega
  · rw [if_neg c, List.length_append, List.length_singleton]
    omega
def names5 : List PySem.Str := ["a", "b", "seat", "zz", "abcdefgh"]
theorem names5_good : ∀ n ∈ names5, GoodN n := fun n h => by
  have a : ∀ n ∈ names5, 1 ≤ n.cps.size ∧ n.cps.size ≤ 8 ∧ ∀ c ∈ n.cps.toList, c ∈ letters.cps.toList := by decide +kernel
  exact ⟨(a n h).1, (a n h).2.1, (a n h).2.2⟩
theorem at_str {os : List PySem.Str} {i : Int} {x : PySem.Str} (h0 : 0 ≤ i) (h1 : os[i.toNat]? = some x) : atI (os.map V.str) i = some (.str x) := by
  have := atI_nat (xs := os.map V.str) (j := i.toNat) (v := .str x) (by rw [List.getElem?_map, h1]; rfl)
  rwa [Int.toNat_of_nonneg h0] at this
def spSeats (K : PySem.W.Frag) : Sp := sp2 fun x y H Q => ∃ p k H0 n, x = .ref p ∧ y = .int n ∧ 0 ≤ n ∧ n ≤ 4 ∧ 0 ≤ k ∧ k < 5000 ∧ PoolAt K p H0 k H ∧
  ∀ d ss H', But p H H' → PoolAt K p H0 (k + 100) H' → d ≠ p → SdP p d n H' ss → 1 ≤ ss.length → ss.length ≤ 4 → Q (.ref d) H'
theorem sc_law_seats : FnScope ["_law_pool_here", "_law_count", "_law_names", "_law_seats_here", "_law_k"] ["_law_pool_here", "_law_count"] (defScope s_law_seats) := ⟨rfl, rfl, rfl, by decide +kernel, rfl, by decide +kernel, by decide +kernel⟩
theorem c_law_seats (T : Txt K mg) : C8.Cal P w K mg base 3 "_law_seats" (spSeats K) [] := by
  obtain ⟨fd, F⟩ := T.f_law_seats
  refine calN F T.g_law_seats sc_law_seats (F.bindsN fun _ _ _ _ _ _ us hl => match us, hl with | [_, _], _ => rfl) len2 (fun cdv A outer s H vs Q E hr h => ?_)
  refine ⟨_, (pss_cons (ps_set (i := 2) sc_law_seats.nd rfl (by first | exact Or.inl rfl | exact Or.inr rfl) (pe_lst (pa_cons pe_str (pa_cons pe_str (pa_cons pe_str (pa_cons pe_str (pa_cons pe_str pa_nil)))))))
      (pss_cons (ps_set (i := 3) sc_law_seats.nd rfl (by first | exact Or.inl rfl | exact Or.inr rfl) pe_dnewK)
      (pss_cons (ps_for PassesOwn.never rfl (pi_range1 (by rfl) T.b_range (pa_cons (pe_op op_add pe_int (C8.pe_c (c_law_draw T) hr (by decide) rfl (pa_cons (pv 0) (pa_cons pe_int pa_nil)))) pa_nil)) (pg_name (i := 4) sc_law_seats.nd rfl (by first | exact Or.inl rfl | exact Or.inr rfl))
      (pss_one (ps_dput (hu_of hr) (pv 3) (pe_ix ix_list (pv 2) (C8.pe_c (c_law_draw T) hr (by decide) rfl (pa_cons (pv 0) (pa_cons pe_int pa_nil))) (fun _ _ => rfl)) (C8.pe_c (c_law_some T) hr (by decide) rfl (pa_cons (pv 0) (pa_cons (pv 1) pa_nil))) rfl)))
      (pss_one (ps_ret (pv 3)))))), ?_⟩
  -- slots: 0:_law_pool_here 1:_law_count 2:_law_names 3:_law_seats_here 4:_law_k
  obtain ⟨x, y, rfl, p, k, H0, n, rfl, rfl, n0, n4, k0, k1, pool, q⟩ := h
  have lin : 2000 < sizeLine := by rw [sizeLine_eq]; omega
  refine ⟨by show 5 ≤ sizeLine; omega, fun N hN => ?_⟩
  have l1 := (Pl.of pool).ext (Ext.upd hN (o := .lst (names5.map V.str)))
  have wN := (Pl.of pool).nw hN
  refine fun d hd => ?_
  have wd := l1.nw hd
  have l2 := l1.ext (Ext.upd hd (o := .dK []))
  have hN2 : upd (upd H N (.lst (names5.map V.str))) d (.dK []) N = some (.lst (names5.map V.str)) := Ext.upd hd _ _ upd_same
  have nNd : N ≠ d := ne_of_none upd_same hd
  refine ⟨_, rfl, _, _, rfl, p, _, _, H0, rfl, rfl, by omega, by omega, by omega, l2.p, fun c H3 c0 c1 B3 P3 => ⟨_, _, rfl, rfl, _, rfl, by omega, by omega, ?_⟩⟩
  have l3 := l2.draw B3 P3
  have s3 : SdP p d n H3 [] := ⟨⟨fun _ => .non, B3 _ _ wd.ne upd_same, by simp⟩, List.nodup_nil, by simp, by simp, by simp⟩
  refine for_range (fun i σ H' => ∃ ss v4, σ = [some (.ref p), some (.int n), some (.ref N), some (.ref d), v4] ∧ Pl K p H0 H (k + 1 + 12 * i) H' ∧ H' N = some (.lst (names5.map V.str)) ∧ SdP p d n H' ss ∧ ss.length ≤ i ∧ (1 ≤ i → 1 ≤ ss.length)) ⟨[], _, rfl, l3.mono (by omega), B3 _ _ wN.ne hN2, s3, Nat.le_refl _, fun z => by omega⟩ ?_ ?_
  · rintro i σ H4 hi ⟨ss, v4, rfl, l4, hN4, s4, ls, l0⟩
    refine ⟨_, rfl, _, rfl, _, _, rfl, p, _, H0, n, rfl, rfl, n0, n4, by omega, by omega, l4.p, fun L us H5 nL B5 P5 hL5 ipu luu => ?_⟩
    have l5 := l4.draw B5 P5
    refine ⟨_, rfl, _, rfl, _, rfl, _, _, rfl, p, _, _, H0, rfl, rfl, by omega, by omega, by omega, l5.p, fun e H6 e0 e1 B6 P6 => ?_⟩
    have l6 := l5.draw B6 P6
    have wL := l4.nw nL
    obtain ⟨x, hx⟩ : ∃ x, names5[e.toNat]? = some x := ⟨names5[e.toNat]'(by show e.toNat < 5; omega), List.getElem?_eq_getElem _⟩
    have mx := List.mem_of_getElem? hx
    have hN6 := B6 _ _ wN.ne (B5 _ _ wN.ne hN4)
    obtain ⟨F, hd6, s7⟩ := ((s4.but B5 wd.ne).but B6 wd.ne).put (names5_good x mx) ipu luu wL.ne (B6 _ _ wL.ne hL5)
    have pl := putS_len ss x us
    refine ⟨N, _, e, _, rfl, rfl, .of hN6, at_str e0 hx, d, _, rfl, .inl ⟨_, Sum.inr x, hd6, rfl, ?_, rfl⟩, putS ss x us, _, rfl, (l6.put wd).mono (by omega), ?_, s7, by omega, fun _ => pl.2⟩
    · rw [dg_len, show (sk ss).length = ss.length from List.length_map _]
      omega
    · rw [upd_ne nNd]
      exact hN6
  · rintro σ H4 ⟨ss, v4, rfl, l4, hN4, s4, ls, l0⟩
    exact ⟨_, rfl, q d ss H4 l4.b (l4.p.mono (by omega)) wd.ne s4 (l0 (by omega)) (by omega)⟩
end
end Sv
namespace Sv
open PySem PySem.Spec PyProof.Rows L2
/-! ### sets, clashes -/
section
variable {X : Cx} (K : PySem.W.Frag) (hK : X.K = K)
include hK
theorem call_lenK : CallR X (.builtin "len") (fun xs H Q => ∃ x n, xs = [x] ∧ LenV K x H n ∧ Q (.int n) H) := by
  subst hK
  exact call_len
theorem op_ltTK (hu : X.A.units < cLine) : OpR X (compareOp .Lt) (rLtT K) := by
  subst hK
  exact op_ltT hu
theorem op_catAK : OpR X (binaryOp .Add) (rCatA K) := by
  subst hK
  exact op_catA
end
theorem lex_n : ∀ l m : List Nat, HT.lexLt (l.map Int.ofNat) (m.map Int.ofNat) = ltN l m
  | [], [] => rfl
  | [], _ :: _ => rfl
  | _ :: _, [] => rfl
  | a :: l, b :: m => by
    rw [List.map_cons, List.map_cons, HT.lexLt_cons, lex_n l m]
    show (if (Int.ofNat a) = Int.ofNat b then ltN l m else decide (Int.ofNat a < Int.ofNat b)) = if a < b then true else if b < a then false else ltN l m
    by_cases h : a = b
    · subst h
      rw [if_pos rfl, if_neg (Nat.lt_irrefl a), if_neg (Nat.lt_irrefl a)]
    · rw [if_neg (fun z => h (Int.ofNat.inj z))]
      by_cases h2 : a < b
      · rw [if_pos h2]
        exact decide_eq_true (Int.ofNat_lt.mpr h2)
      · rw [if_neg h2, if_pos (by omega)]
        exact decide_eq_false (fun z => h2 (Int.ofNat_lt.mp z))
theorem nV_ints (l : List Nat) : nV l = (l.map Int.ofNat).map V.int := by
  unfold nV
  rw [List.map_map]
  rfl
theorem drawn_len : ∀ n, n ≤ 6 → (drawnS n).length ≤ 64 := by decide +kernel
theorem drawn_6 : ∀ n, n ≤ 6 → ∀ l ∈ drawnS n, l.length ≤ 6 := by decide +kernel
theorem len_insS (found : List (List Nat)) (x : List Nat) : (insS found x).length = found.length + 1 := by
  have := len_ins found (found.filter fun y => lessS y x).length x
  exact this
theorem mem_insS {found : List (List Nat)} {x y : List Nat} : y ∈ insS found x ↔ y = x ∨ y ∈ found := mem_ins
theorem foldS_mem (P : List Nat → Prop) : ∀ (L found : List (List Nat)), (∀ l ∈ found, P l) → (∀ l ∈ L, P l) → ∀ l ∈ L.foldl insS found, P l
  | [], _, h, _ => h
  | x :: L, found, h1, h2 => foldS_mem P L _ (fun l hl => (mem_insS.mp hl).elim (fun z => z ▸ h2 x List.mem_cons_self) (h1 l)) fun l hl => h2 l (List.mem_cons_of_mem _ hl)
theorem foldS_len : ∀ (L found : List (List Nat)), (L.foldl insS found).length = found.length + L.length
  | [], _ => rfl
  | x :: L, found => by
    rw [List.foldl_cons, foldS_len L, len_insS, List.length_cons]
    omega
def spLClash (K : PySem.W.Frag) : Sp := sp2 fun x y H Q => ∃ e f, Dp K H x (edD e) ∧ Dp K H y (edD f) ∧ Q (.bl (clashF e f)) H
def spLSets (K : PySem.W.Frag) : Sp := sp1 fun x H Q => ∃ n : Nat, x = .int (n : Nat) ∧ n ≤ 6 ∧ ∀ L H', H L = none → Ext H H' → Dp K H' (.ref L) (.list ((setsL n).map nD)) → Q (.ref L) H'
def spLClashes (K : PySem.W.Frag) : Sp := sp2 fun x y H Q => ∃ es l, Dp K H x (.list (es.map edD)) ∧ Dp K H y (nD l) ∧ (∀ a ∈ l, a < es.length) ∧ l.length ≤ 6 ∧ Q (.bl (clashL es l)) H
def spLHolds (K : PySem.W.Frag) : Sp := sp2 fun x y H Q => ∃ ls l, Dp K H x (.list (ls.map nD)) ∧ Dp K H y (nD l) ∧ l.length ≤ 6 ∧ ls.length ≤ 1000 ∧ (∀ m ∈ ls, m.length ≤ 6) ∧ ∀ H', Ext H H' → Q (.bl (holdsF ls l)) H'
theorem fm_bind {α β : Type} (f : α → Option β) (l : List α) : (List.range l.length).filterMap (fun k => (l[k]?).bind f) = l.filterMap f := by
  induction l with
  | nil => rfl
  | cons x l ih =>
    rw [List.length_cons, List.range_succ_eq_map, List.filterMap_cons, List.filterMap_cons, List.filterMap_map, ← ih]
    rfl
theorem uw_p (b : Bool) : decide (V.str (uw b) = V.str "price") = false := decide_eq_false fun z => uw_ne (V.str.inj z)
theorem p_p : decide (V.str "price" = V.str "price") = true := decide_eq_true rfl
section
variable {P : Program} {w : World} {K : PySem.W.Frag} {mg : PySem.Str → Option Value} {base : Heap}
theorem sc_law_clash : FnScope ["_law_one", "_law_two"] ["_law_one", "_law_two"] (defScope s_law_clash) := ⟨rfl, rfl, rfl, by decide +kernel, rfl, by decide +kernel, by decide +kernel⟩
theorem c_law_clash (T : Txt K mg) : C8.Cal P w K mg base 1 "_law_clash" (spLClash K) [] := by
  obtain ⟨fd, F⟩ := T.f_law_clash
  refine calN F T.g_law_clash sc_law_clash (F.bindsN fun _ _ _ _ _ _ us hl => match us, hl with | [_, _], _ => rfl) len2 (fun cdv A outer s H vs Q E hr h => ?_)
  refine ⟨_, (pss_cons (ps_if (PW.pt (pw_and (pt_cmpR op_eq (pe_ix ix_tup (pv 0) pe_int (fun _ _ => rfl)) pe_str (nomark _)) (pw_and1 (pt_cmpR op_eq (pe_ix ix_tup (pv 1) pe_int (fun _ _ => rfl)) pe_str (nomark _))))) (pss_one (ps_ret (pe_and (pe_cmpR op_eq (pe_ix ix_tup (pv 0) pe_int (fun _ _ => rfl)) (pe_ix ix_tup (pv 1) pe_int (fun _ _ => rfl)) (nomark _)) (pe_one (pe_cmpR op_eq (pe_ix ix_tup (pv 0) pe_int (fun _ _ => rfl)) (pe_ix ix_tup (pv 1) pe_int (fun _ _ => rfl)) (nomark _))))))
      pss_nil)
      (pss_cons (ps_if (PW.pt (pw_or (pt_cmpR op_eq (pe_ix ix_tup (pv 0) pe_int (fun _ _ => rfl)) pe_str (nomark _)) (pw_or1 (pt_cmpR op_eq (pe_ix ix_tup (pv 1) pe_int (fun _ _ => rfl)) pe_str (nomark _))))) (pss_one (ps_ret pe_bl))
      pss_nil)
      (pss_one (ps_ret (pe_and (pe_cmpR op_ne (pe_ix ix_tup (pv 0) pe_int (fun _ _ => rfl)) (pe_ix ix_tup (pv 1) pe_int (fun _ _ => rfl)) (nomark _)) (pe_and (pe_cmpR op_eq (pe_ix ix_tup (pv 0) pe_int (fun _ _ => rfl)) (pe_ix ix_tup (pv 1) pe_int (fun _ _ => rfl)) (nomark _)) (pe_one (pe_cmpR op_eq (pe_ix ix_tup (pv 0) pe_int (fun _ _ => rfl)) (pe_ix ix_tup (pv 1) pe_int (fun _ _ => rfl)) (nomark _))))))))), ?_⟩
  -- slots: 0:_law_one 1:_law_two
  obtain ⟨x, y, rfl, e, f, de, df, q⟩ := h
  obtain ⟨a, xs, rfl, sx, ax⟩ := de.tupI
  obtain ⟨b, ys, rfl, sy, ay⟩ := df.tupI
  cases e with
  | price g1 b1 o1 =>
    obtain ⟨u0, u1, u2, u3, rfl, du0, du1, du2, du3⟩ := DpAll.four ax
    obtain rfl := du0.strI
    obtain rfl := du1.intI
    obtain rfl := du2.strI
    refine ⟨_, rfl, a, _, _, _, rfl, rfl, sx, rfl, rfl, _, rfl, ?_⟩
    show if decide (V.str "price" = V.str "price") = true then _ else _
    rw [p_p]
    cases f with
    | price g2 b2 o2 =>
      obtain ⟨w0, w1, w2, w3, rfl, dw0, dw1, dw2, dw3⟩ := DpAll.four ay
      obtain rfl := dw0.strI
      obtain rfl := dw1.intI
      obtain rfl := dw2.strI
      refine iteT ⟨_, rfl, b, _, _, _, rfl, rfl, sy, rfl, rfl, _, rfl, ?_⟩
      show if decide (V.str "price" = V.str "price") = true then _ else _
      rw [p_p]
      refine iteT ⟨_, rfl, a, _, _, _, rfl, rfl, sx, rfl, _, rfl, b, _, _, _, rfl, rfl, sy, rfl, rfl, ?_⟩
      refine ⟨decide (g1 = g2), congrArg V.bl (decide_eq_decide.mpr ⟨fun z => by have := V.int.inj z; omega, fun z => by rw [z]⟩), ?_⟩
      have ec : clashF (.price g1 b1 o1) (.price g2 b2 o2) = (decide (g1 = g2) && decide (b1 = b2)) := rfl
      rw [ec] at q
      by_cases c : g1 = g2
      · rw [decide_eq_true c] at q ⊢
        refine iteT ⟨_, rfl, a, _, _, _, rfl, rfl, sx, rfl, _, rfl, b, _, _, _, rfl, rfl, sy, rfl, rfl, ?_⟩
        have e2 : decide (V.str (wd b1) = V.str (wd b2)) = decide (b1 = b2) := decide_eq_decide.mpr ⟨fun z => wd_iff.mp (V.str.inj z), fun z => by rw [z]⟩
        show Q (.bl (decide (V.str (wd b1) = V.str (wd b2)))) H
        rw [e2]
        exact q
      · rw [decide_eq_false c] at q ⊢
        exact iteF q
    | «at» b2 n2' k2 =>
      obtain ⟨w0, w1, w2, rfl, dw0, dw1, dw2⟩ := DpAll.three ay
      obtain rfl := dw0.strI
      refine iteT ⟨_, rfl, b, _, _, _, rfl, rfl, sy, rfl, rfl, _, rfl, ?_⟩
      show if decide (V.str (uw b2) = V.str "price") = true then _ else _
      rw [uw_p]
      refine iteF ⟨_, rfl, a, _, _, _, rfl, rfl, sx, rfl, rfl, _, rfl, ?_⟩
      show if decide (V.str "price" = V.str "price") = true then _ else _
      rw [p_p]
      exact iteT (iteT q)
  | «at» b1 n1' k1 =>
    obtain ⟨u0, u1, u2, rfl, du0, du1, du2⟩ := DpAll.three ax
    obtain rfl := du0.strI
    obtain rfl := du1.strI
    obtain rfl := du2.intI
    refine ⟨_, rfl, a, _, _, _, rfl, rfl, sx, rfl, rfl, _, rfl, ?_⟩
    show if decide (V.str (uw b1) = V.str "price") = true then _ else _
    rw [uw_p]
    refine iteF ⟨_, rfl, a, _, _, _, rfl, rfl, sx, rfl, rfl, _, rfl, ?_⟩
    show if decide (V.str (uw b1) = V.str "price") = true then _ else _
    rw [uw_p]
    cases f with
    | price g2 b2 o2 =>
      obtain ⟨w0, w1, w2, w3, rfl, dw0, dw1, dw2, dw3⟩ := DpAll.four ay
      obtain rfl := dw0.strI
      refine iteF ⟨_, rfl, b, _, _, _, rfl, rfl, sy, rfl, rfl, _, rfl, ?_⟩
      show if decide (V.str "price" = V.str "price") = true then _ else _
      rw [p_p]
      exact iteT q
    | «at» b2 n2' k2 =>
      obtain ⟨w0, w1, w2, rfl, dw0, dw1, dw2⟩ := DpAll.three ay
      obtain rfl := dw0.strI
      obtain rfl := dw1.strI
      obtain rfl := dw2.intI
      refine iteF ⟨_, rfl, b, _, _, _, rfl, rfl, sy, rfl, rfl, _, rfl, ?_⟩
      show if decide (V.str (uw b2) = V.str "price") = true then _ else _
      rw [uw_p]
      have ec : clashF (.at b1 n1' k1) (.at b2 n2' k2) = (!decide (b1 = b2) && (decide (n1' = n2') && decide (k1 = k2))) := rfl
      rw [ec] at q
      have e1 : decide (V.str (uw b1) = V.str (uw b2)) = decide (b1 = b2) := decide_eq_decide.mpr ⟨fun z => uw_inj.mp (V.str.inj z), fun z => by rw [z]⟩
      have e2 : decide (V.str n1' = V.str n2') = decide (n1' = n2') := decide_eq_decide.mpr ⟨fun z => V.str.inj z, fun z => by rw [z]⟩
      have e3 : decide (V.int k1 = V.int k2) = decide (k1 = k2) := decide_eq_decide.mpr ⟨fun z => V.int.inj z, fun z => by rw [z]⟩
      refine iteF ⟨_, rfl, a, _, _, _, rfl, rfl, sx, rfl, _, rfl, b, _, _, _, rfl, rfl, sy, rfl, rfl, !decide (b1 = b2), congrArg V.bl (by rw [e1]), ?_⟩
      by_cases c1 : b1 = b2
      · rw [decide_eq_true c1] at q ⊢
        exact iteF q
      · rw [decide_eq_false c1] at q ⊢
        refine iteT ⟨_, rfl, a, _, _, _, rfl, rfl, sx, rfl, _, rfl, b, _, _, _, rfl, rfl, sy, rfl, rfl, decide (n1' = n2'), congrArg V.bl e2, ?_⟩
        by_cases c2 : n1' = n2'
        · rw [decide_eq_true c2] at q ⊢
          refine iteT ⟨_, rfl, a, _, _, _, rfl, rfl, sx, rfl, _, rfl, b, _, _, _, rfl, rfl, sy, rfl, rfl, ?_⟩
          show Q (.bl (decide (V.int k1 = V.int k2))) H
          rw [e3]
          exact q
        · rw [decide_eq_false c2] at q ⊢
          exact iteF q
theorem sc_law_sets : FnScope ["_law_count", "_law_drawn", "_law_at", "_law_one", "_law_found", "_law_chosen", "_law_less"] ["_law_count"] (defScope s_law_sets) := ⟨rfl, rfl, rfl, by decide +kernel, rfl, by decide +kernel, by decide +kernel⟩
theorem c_law_sets (T : Txt K mg) : C8.Cal P w K mg base 1 "_law_sets" (spLSets K) [] := by
  obtain ⟨fd, F⟩ := T.f_law_sets
  refine calN F T.g_law_sets sc_law_sets (F.bindsN fun _ _ _ _ _ _ us hl => match us, hl with | [_], _ => rfl) len1 (fun cdv A outer s H vs Q E hr h => ?_)
  refine ⟨_, (pss_cons (ps_set (i := 1) sc_law_sets.nd rfl (by first | exact Or.inl rfl | exact Or.inr rfl) (pe_lst (pa_cons (pe_tup pa_nil) pa_nil)))
      (pss_cons (ps_for PassesOwn.never rfl (pi_range1 (by rfl) T.b_range (pa_cons (pv 0) pa_nil)) (pg_name (i := 2) sc_law_sets.nd rfl (by first | exact Or.inl rfl | exact Or.inr rfl))
      (pss_one (ps_set (i := 1) sc_law_sets.nd rfl (by first | exact Or.inl rfl | exact Or.inr rfl) (pe_op op_cat (pv 1) (pe_lc (own := [("_law_one", 3)]) (g := gName 3) (tt := tYes) rfl sc_law_sets.nd (pi_list (pv 1)) (blkOk_by (own := [("_law_one", 3)]) (N := ["_law_count", "_law_drawn", "_law_at", "_law_one", "_law_found", "_law_chosen", "_law_less"]) (sc := defScope s_law_sets) (by decide +kernel)) (fun _ _ _ _ _ => pg_name (i := 3) sc_law_sets.nd rfl (by first | exact Or.inl rfl | exact Or.inr rfl)) (fun _ _ _ _ _ => pts_nil) (fun _ _ _ _ _ => (pe_op (op_catAK K rfl) (pv 3) (pe_tup (pa_cons (pv 2) pa_nil)))))))))
      (pss_cons (ps_set (i := 4) sc_law_sets.nd rfl (by first | exact Or.inl rfl | exact Or.inr rfl) (pe_lst pa_nil))
      (pss_cons (ps_for PassesOwn.never rfl (pi_list (pv 1)) (pg_name (i := 5) sc_law_sets.nd rfl (by first | exact Or.inl rfl | exact Or.inr rfl))
      (pss_cons (ps_setLc (i := 6) (own := [("_law_one", 3)]) (g := gName 3) (tt := _) rfl sc_law_sets.nd rfl rfl (sw_true rfl rfl rfl (by decide +kernel)) (pi_list (pv 4)) (blkOk_by (own := [("_law_one", 3)]) (N := ["_law_count", "_law_drawn", "_law_at", "_law_one", "_law_found", "_law_chosen", "_law_less"]) (sc := defScope s_law_sets) (by decide +kernel)) (fun _ _ _ _ _ => pg_name (i := 3) sc_law_sets.nd rfl (by first | exact Or.inl rfl | exact Or.inr rfl)) (fun _ _ _ _ _ => pts_one (PW.pt (pw_or (pt_cmpR op_lt (pe_callB (call_lenK K rfl) (by rfl) T.b_len (by decide +kernel) (pa_cons (pv 3) pa_nil)) (pe_callB (call_lenK K rfl) (by rfl) T.b_len (by decide +kernel) (pa_cons (pv 5) pa_nil)) (nomark _)) (pw_or1 (PW.pt (pw_and (pt_cmpR op_eq (pe_callB (call_lenK K rfl) (by rfl) T.b_len (by decide +kernel) (pa_cons (pv 3) pa_nil)) (pe_callB (call_lenK K rfl) (by rfl) T.b_len (by decide +kernel) (pa_cons (pv 5) pa_nil)) (nomark _)) (pw_and1 (pt_cmpR (op_ltTK K rfl (Nat.lt_of_le_of_lt (Nat.le_add_right _ _) hr.units)) (pv 3) (pv 5) (nomark _))))))))) (fun _ _ _ _ _ => (pv 3)))
      (pss_one (ps_expr (pe_bm PySem.F.plainAttrs_list PySem.F.slot_list_insert PySem.F.type_list_insert mt_insert (pv 4) (pa_cons (pe_callB call_len (by rfl) T.b_len (by decide +kernel) (pa_cons (pv 6) pa_nil)) (pa_cons (pv 5) pa_nil)))))))
      (pss_one (ps_ret (pv 4))))))), ?_⟩
  -- slots: 0:_law_count 1:_law_drawn 2:_law_at 3:_law_one 4:_law_found 5:_law_chosen 6:_law_less
  obtain ⟨x, rfl, n, rfl, n6, q⟩ := h
  have lin : 2000 < sizeLine := by rw [sizeLine_eq]; omega
  refine ⟨Nat.zero_le _, fun t ht => ⟨by show 1 ≤ sizeLine; omega, fun F hF => ?_⟩⟩
  have x0 := (Ext.upd ht (o := .tup [])).trans (Ext.upd hF (o := .lst [.ref t]))
  refine ⟨_, rfl, n, rfl, by omega, by omega, for_range (fun i σ H' => ∃ F vs v2 v3, σ = [some (.int (n : Nat)), some (.ref F), v2, v3, none, none, none] ∧ Ext H H' ∧ H' F = some (.lst vs) ∧ DpAll K H' vs ((drawnS i).map nD))
    ⟨F, _, _, _, rfl, x0, upd_same, .cons (.tup (.of (Ext.upd hF _ _ upd_same)) .nil) .nil⟩ ?_ ?_⟩
  · rintro i σ H1 hi ⟨F, vs, v2, v3, rfl, x1, hF1, al⟩
    have lv : vs.length = (drawnS i).length := by rw [al.len, List.length_map]
    have ld := drawn_len i (by omega)
    refine ⟨_, rfl, _, rfl, F, rfl, ⟨_, .of hF1⟩, fun D hD => lcD_list (K := K) (fun k => ((drawnS i)[k]?).map fun l => nD (l ++ [i])) hD (.of hF1) (by omega) ?_ ?_⟩
    · intro k x H' Nx hk y1 tn
      obtain ⟨d, hd, dv⟩ := al.get hk
      rw [List.getElem?_map] at hd
      obtain ⟨l, hl, rfl⟩ := Option.map_eq_some_iff.mp hd
      obtain ⟨a, rfl, sa⟩ := nD_sq dv
      have l6 := drawn_6 i (by omega) l (List.mem_of_getElem? hl)
      refine ⟨rfl, _, rfl, _, rfl, by show 1 ≤ sizeLine; omega, fun m hm => ?_⟩
      have y2 := (y1.trans off_le).trans (Ext.upd hm (o := .tup [.int (0 + (i : Int))]))
      have nm := tn.ne hm
      have e0 : (0 + (i : Int)) = i := by omega
      refine ⟨a, m, nV l, [.int (0 + (i : Int))], rfl, rfl, sa.ext y2, .of upd_same, by rw [nV_len]; show l.length + 1 ≤ sizeLine; omega, fun z => ?_, fun _ z => (by cases z), fun _ _ p hp => ?_⟩
      · have z : l = [] := List.map_eq_nil_iff.mp z
        subst z
        refine tn.keepN (d := nD ([] ++ [i])) (by rw [hl]; rfl) hm (.tup (.of upd_same) ?_)
        rw [e0]
        exact .cons (.int _) .nil
      · obtain ⟨accD, haD⟩ := tn.has
        have np : p ≠ D := neD (Ext.upd hm (o := .tup [.int (0 + (i : Int))]) _ _ haD) hp
        refine tn.keepE (d := nD (l ++ [i])) (by rw [hl]; rfl) ((Ext.upd hm).trans (Ext.upd hp)) ?_
        rw [off_upd np]
        refine .tup (.of upd_same) ?_
        have := dps_n (K := K) (H := upd (Off D (upd H' m (.tup [.int (0 + (i : Int))]))) p (.tup (nV l ++ [.int (0 + (i : Int))]))) (l ++ [i])
        rw [show nV (l ++ [i]) = nV l ++ [.int (0 + (i : Int))] by unfold nV; rw [List.map_append, e0]; rfl] at this
        exact this
    · intro H2 md
      rw [lv, fm_map] at md
      obtain ⟨acc, y2, hacc, da⟩ := id md
      have x2 := y2.trans off_le
      have la : acc.length = (drawnS i).length := by rw [da.len, List.length_map]
      refine ⟨F, D, vs, acc, rfl, rfl, x2 _ _ hF1, hacc, by omega, fun R hR => ?_⟩
      have x3 := Ext.upd hR (o := .lst (vs ++ acc))
      refine ⟨R, _, _, _, rfl, x1.trans (x2.trans x3), upd_same, ?_⟩
      have z := (al.ext (x2.trans x3)).app ((da.ext off_le).ext x3)
      show DpAll K _ _ ((drawnS i ++ (drawnS i).map (· ++ [i])).map nD)
      rw [List.map_append, List.map_map]
      exact z
  · rintro σ H1 ⟨F, vs, v2, v3, rfl, x1, hF1, al⟩
    rw [Int.toNat_natCast] at al
    have lv : vs.length = (drawnS n).length := by rw [al.len, List.length_map]
    have ld := drawn_len n n6
    refine ⟨Nat.zero_le _, fun R hR => ?_⟩
    have x2 := Ext.upd hR (o := .lst [])
    have nFR : F ≠ R := ne_of_none hF1 hR
    refine ⟨_, rfl, F, rfl, ⟨_, .of (x2 _ _ hF1)⟩, for_list (K := K) (xs := vs) (fun j σ H' => ∃ ws v3 v5 v6, σ = [some (.int (n : Nat)), some (.ref F), v2, v3, some (.ref R), v5, v6] ∧ Ext H1 H' ∧ H' R = some (.lst ws) ∧ DpAll K H' ws ((((drawnS n).take j).foldl insS []).map nD))
      ⟨[], _, _, _, rfl, x2, upd_same, .nil⟩ (fun j σ H' _ z => by obtain ⟨_, _, _, _, _, x, _⟩ := z; exact .of (x _ _ hF1)) ?_ ?_⟩
    · rintro j v σ H2 hj ⟨ws, v3, v5, v6, rfl, x3, hR2, dw⟩
      obtain ⟨d, hd, dv⟩ := al.get hj
      rw [List.getElem?_map] at hd
      obtain ⟨l, hl, rfl⟩ := Option.map_eq_some_iff.mp hd
      obtain ⟨a, rfl, sa⟩ := nD_sq dv
      have jl := (List.getElem?_eq_some_iff.mp hl).1
      have e1 : ((drawnS n).take (j + 1)).foldl insS [] = insS (((drawnS n).take j).foldl insS []) l := by
        rw [List.take_add_one, hl, List.foldl_append]
        rfl
      have lf : (((drawnS n).take j).foldl insS []).length = j := by
        rw [foldS_len, List.length_take, List.length_nil]
        omega
      have l6f : ∀ m ∈ ((drawnS n).take j).foldl insS [], m.length ≤ 6 := foldS_mem (fun m => m.length ≤ 6) _ _ (by simp) fun m hm => drawn_6 n n6 m (List.mem_of_mem_take hm)
      have l6 := drawn_6 n n6 l (List.mem_of_getElem? hl)
      rw [e1]
      generalize ((drawnS n).take j).foldl insS [] = fd at dw lf l6f
      have lw : ws.length = fd.length := by rw [dw.len, List.length_map]
      refine ⟨_, rfl, R, rfl, ⟨_, .of hR2⟩, fun D hD => lcD_list (K := K) (fun k => (fd[k]?).bind fun m => if lessS m l = true then some (nD m) else none) hD (.of hR2) (by omega) ?_ ?_⟩
      · intro k x H' Nx hk y1 tn
        obtain ⟨d, hd, dm⟩ := dw.get hk
        rw [List.getElem?_map] at hd
        obtain ⟨m, hm, rfl⟩ := Option.map_eq_some_iff.mp hd
        obtain ⟨b, rfl, sb⟩ := nD_sq dm
        have m6 := l6f m (List.mem_of_getElem? hm)
        have yy := y1.trans off_le
        have sa' := (sa.ext x3).ext yy
        have sb' := sb.ext yy
        have es : lessS m l = (decide (m.length < l.length) || (decide (m.length = l.length) && ltN m l)) := rfl
        refine ⟨rfl, _, rfl, _, _, rfl, .inr ⟨_, sb', rfl⟩, _, rfl, _, _, rfl, .inr ⟨_, sa', rfl⟩, _, _, rfl, rfl, decide (m.length < l.length), congrArg V.bl (by rw [nV_len, nV_len]; exact decide_eq_decide.mpr Int.ofNat_lt), ?_⟩
        by_cases c1 : m.length < l.length
        · rw [decide_eq_true c1] at es ⊢
          refine iteT ⟨_, rfl, tn.keep0 (d := nD m) (by rw [hm]; exact if_pos es) (.tup (sb.ext y1) (dps_n m))⟩
        · rw [decide_eq_false c1] at es ⊢
          refine iteF ⟨_, rfl, _, _, rfl, .inr ⟨_, sb', rfl⟩, _, rfl, _, _, rfl, .inr ⟨_, sa', rfl⟩, rfl, decide (m.length = l.length), congrArg V.bl (by rw [nV_len, nV_len]; exact decide_eq_decide.mpr ⟨fun z => Int.ofNat_inj.mp (V.int.inj z), fun z => by rw [z]⟩), ?_⟩
          by_cases c2 : m.length = l.length
          · rw [decide_eq_true c2] at es ⊢
            have sb2 : SqT K H' b ((m.map Int.ofNat).map V.int) := by rw [← nV_ints]; exact sb'
            have sa2 : SqT K H' a ((l.map Int.ofNat).map V.int) := by rw [← nV_ints]; exact sa'
            refine iteT ⟨_, rfl, _, rfl, b, a, m.map Int.ofNat, l.map Int.ofNat, rfl, rfl, sb2, sa2, ltN m l, congrArg V.bl (lex_n m l), ?_⟩
            cases c3 : ltN m l with
            | true =>
              rw [c3] at es
              exact iteT ⟨_, rfl, tn.keep0 (d := nD m) (by rw [hm]; exact if_pos es) (.tup (sb.ext y1) (dps_n m))⟩
            | false =>
              rw [c3] at es
              exact iteF (tn.drop0 (by rw [hm]; exact if_neg (by rw [es]; exact Bool.false_ne_true)))
          · rw [decide_eq_false c2] at es ⊢
            exact iteF (tn.drop0 (by rw [hm]; exact if_neg (by rw [es]; exact Bool.false_ne_true)))
      · intro H3 md
        rw [lw, fm_bind, fm_if] at md
        obtain ⟨acc, y2, hacc, da⟩ := id md
        have y3 := y2.trans off_le
        have hR3 := y3 _ _ hR2
        have la : acc.length = (fd.filter fun m => lessS m l).length := by rw [da.len, List.length_map]
        have lle : (fd.filter fun m => lessS m l).length ≤ fd.length := List.length_filter_le _ _
        refine ⟨_, rfl, .inl ⟨rfl, _, .of hR3⟩, _, rfl, _, _, rfl, .inl ⟨_, .of hacc, rfl⟩, _, rfl, R, ws, _, _, rfl, rfl, hR3, by omega, by omega, by omega, ?_⟩
        refine ⟨_, _, _, _, rfl, (x3.trans y3).put hR, upd_same, ?_⟩
        have z := dps_ins (dw.ext y3) (.tup ((sa.ext x3).ext y3) (dps_n l) : Dp K H3 (.ref a) (nD l)) acc.length
        rw [la] at z
        rw [Int.toNat_natCast, la]
        refine DpAll.tu (tu_putL hR3) _ _ (nls_nD _) ?_
        have e2 : (insS fd l).map nD = ins (fd.map nD) (fd.filter fun m => lessS m l).length (nD l) := (map_ins nD fd _ l).symm
        rw [e2]
        exact z
    · rintro σ H2 ⟨ws, v3, v5, v6, rfl, x3, hR2, dw⟩
      rw [lv, List.take_length] at dw
      exact ⟨_, rfl, q R H2 (x1.non hR) (x1.trans x3) (.lst (.of hR2) dw)⟩
end
end Sv
namespace Sv
open PySem PySem.Spec PyProof.Rows L2
/-! ### clashes, holds, edited, behind, due -/
theorem eAt_at {es : List Ed} {a : Nat} (h : a < es.length) : es[a]? = some (eAt es a) := by
  unfold eAt
  rw [List.getD_eq_getElem?_getD, List.getElem?_eq_getElem h]
  rfl
theorem any_snoc {α : Type} {l : List α} {i : Nat} {x : α} (p : α → Bool) (h : l[i]? = some x) : (l.take (i + 1)).any p = ((l.take i).any p || p x) := by
  rw [List.take_add_one, h, List.any_append]
  simp
theorem any_upto {α : Type} {l : List α} {i : Nat} {p : α → Bool} (h : (l.take i).any p = true) : l.any p = true := by
  rw [List.any_eq_true] at h ⊢
  obtain ⟨x, hx, e⟩ := h
  exact ⟨x, List.mem_of_mem_take hx, e⟩
theorem filt_nil (m l : List Nat) : decide ((m.filter fun a => !decide (a ∈ l)).map Int.ofNat = []) = m.all fun a => decide (a ∈ l) := by
  rw [Bool.eq_iff_iff, decide_eq_true_iff, List.map_eq_nil_iff, List.filter_eq_nil_iff, List.all_eq_true]
  exact ⟨fun h a ha => by have := h a ha; simpa using this, fun h a ha => by have := h a ha; simpa using this⟩
section
variable {P : Program} {w : World} {K : PySem.W.Frag} {mg : PySem.Str → Option Value} {base : Heap}
theorem sc_law_clashes : FnScope ["_law_menu_here", "_law_chosen", "_law_at", "_law_other"] ["_law_menu_here", "_law_chosen"] (defScope s_law_clashes) := ⟨rfl, rfl, rfl, by decide +kernel, rfl, by decide +kernel, by decide +kernel⟩
theorem c_law_clashes (T : Txt K mg) : C8.Cal P w K mg base 2 "_law_clashes" (spLClashes K) [] := by
  obtain ⟨fd, F⟩ := T.f_law_clashes
  refine calN F T.g_law_clashes sc_law_clashes (F.bindsN fun _ _ _ _ _ _ us hl => match us, hl with | [_, _], _ => rfl) len2 (fun cdv A outer s H vs Q E hr h => ?_)
  refine ⟨_, (pss_cons (ps_for PassesOwn.never rfl (pi_any (own_it T) (hr.mono (by decide)) (pv 1)) (pg_name (i := 2) sc_law_clashes.nd rfl (by first | exact Or.inl rfl | exact Or.inr rfl))
      (pss_one (ps_for PassesOwn.never rfl (pi_any (own_it T) (hr.mono (by decide)) (pv 1)) (pg_name (i := 3) sc_law_clashes.nd rfl (by first | exact Or.inl rfl | exact Or.inr rfl))
      (pss_one (ps_if (PW.pt (pw_and (pt_cmpR op_lt (pv 2) (pv 3) (nomark _)) (pw_and1 (pt_val (C8.pe_c (c_law_clash T) hr (by decide) rfl (pa_cons (pe_ix ix_list (pv 0) (pv 2) (fun _ _ => rfl)) (pa_cons (pe_ix ix_list (pv 0) (pv 3) (fun _ _ => rfl)) pa_nil))))))) (pss_one (ps_ret pe_bl))
      pss_nil)))))
      (pss_one (ps_ret pe_bl))), ?_⟩
  -- slots: 0:_law_menu_here 1:_law_chosen 2:_law_at 3:_law_other
  obtain ⟨x, y, rfl, es, l, dx, dy, la, l6, q⟩ := h
  obtain ⟨a, xs, rfl, sx, ax⟩ := dx.lstI
  obtain ⟨b, rfl, sb⟩ := nD_sq dy
  have J : Wk (cLot K) "places" K H b (nV l) _ := .t sb
  unfold clashL at q
  refine ⟨_, rfl, b, _, _, rfl, J, for_any J (fun i σ H' => ∃ v2 v3, σ = [some (.ref a), some (.ref b), v2, v3] ∧ H = H' ∧ ((l.take i).any fun a => l.any fun b => decide (a < b) && clashF (eAt es a) (eAt es b)) = false) ⟨_, _, rfl, rfl, rfl⟩ (fun i σ H' z => by obtain ⟨_, _, _, rfl, _⟩ := z; exact Ext.rfl') ?_ ?_⟩
  · rintro i v σ _ hi ⟨v2, v3, rfl, rfl, hf⟩
    unfold nV at hi
    rw [List.getElem?_map] at hi
    obtain ⟨c, hc, rfl⟩ := Option.map_eq_some_iff.mp hi
    have lc := la c (List.mem_of_getElem? hc)
    refine ⟨_, rfl, b, _, _, rfl, J, for_any J (fun j σ H' => ∃ v3, σ = [some (.ref a), some (.ref b), some (.int (c : Nat)), v3] ∧ H = H' ∧ ((l.take j).any fun b => decide (c < b) && clashF (eAt es c) (eAt es b)) = false) ⟨_, rfl, rfl, rfl⟩ (fun i σ H' z => by obtain ⟨_, _, rfl, _⟩ := z; exact Ext.rfl') ?_ ?_⟩
    · rintro j v σ _ hj ⟨v3, rfl, rfl, hg⟩
      unfold nV at hj
      rw [List.getElem?_map] at hj
      obtain ⟨d, hd, rfl⟩ := Option.map_eq_some_iff.mp hj
      have ld := la d (List.mem_of_getElem? hd)
      have e1 := any_snoc (fun b => decide (c < b) && clashF (eAt es c) (eAt es b)) hd
      rw [hg, Bool.false_or] at e1
      refine ⟨_, rfl, _, rfl, _, _, rfl, rfl, decide (c < d), congrArg V.bl (decide_eq_decide.mpr Int.ofNat_lt), ?_⟩
      by_cases h1 : c < d
      · rw [decide_eq_true h1] at e1 ⊢
        obtain ⟨u, hu, du⟩ := ax.at (i := c) (d := edD (eAt es c)) (by rw [List.getElem?_map, eAt_at lc]; rfl)
        obtain ⟨u2, hu2, du2⟩ := ax.at (i := d) (d := edD (eAt es d)) (by rw [List.getElem?_map, eAt_at ld]; rfl)
        refine iteT ⟨_, rfl, _, rfl, a, xs, _, _, rfl, rfl, sx, atI_nat hu, _, rfl, _, rfl, a, xs, _, _, rfl, rfl, sx, atI_nat hu2, _, _, rfl, eAt es c, eAt es d, du, du2, _, rfl, ?_⟩
        rw [Bool.true_and] at e1
        cases h2 : clashF (eAt es c) (eAt es d) with
        | true =>
          rw [h2] at e1
          refine iteT ?_
          have e2 : (l.any fun a => l.any fun b => decide (a < b) && clashF (eAt es a) (eAt es b)) = true := List.any_eq_true.mpr ⟨c, List.mem_of_getElem? hc, any_upto e1⟩
          rw [e2] at q
          exact q
        | false =>
          rw [h2] at e1
          exact iteF ⟨_, rfl, rfl, e1⟩
      · rw [decide_eq_false h1] at e1 ⊢
        exact iteF ⟨_, rfl, rfl, e1⟩
    · rintro σ _ ⟨v3, rfl, rfl, hg⟩
      rw [nV_len, List.take_length] at hg
      refine ⟨_, _, rfl, rfl, ?_⟩
      rw [any_snoc (fun a => l.any fun b => decide (a < b) && clashF (eAt es a) (eAt es b)) hc, hf, hg]
      rfl
  · rintro σ _ ⟨v2, v3, rfl, rfl, hf⟩
    rw [nV_len, List.take_length] at hf
    rw [hf] at q
    exact q
theorem sc_law_holds : FnScope ["_law_found", "_law_chosen", "_law_one", "_law_at"] ["_law_found", "_law_chosen"] (defScope s_law_holds) := ⟨rfl, rfl, rfl, by decide +kernel, rfl, by decide +kernel, by decide +kernel⟩
theorem c_law_holds (T : Txt K mg) : C8.Cal P w K mg base 2 "_law_holds" (spLHolds K) [] := by
  obtain ⟨fd, F⟩ := T.f_law_holds
  refine calN F T.g_law_holds sc_law_holds (F.bindsN fun _ _ _ _ _ _ us hl => match us, hl with | [_, _], _ => rfl) len2 (fun cdv A outer s H vs Q E hr h => ?_)
  refine ⟨_, (pss_cons (ps_for PassesOwn.never rfl (pi_any (own_it T) (hr.mono (by decide)) (pv 0)) (pg_name (i := 2) sc_law_holds.nd rfl (by first | exact Or.inl rfl | exact Or.inr rfl))
      (pss_one (ps_if (pt_cmpR (op_eqD hr.units) (pe_lc (own := [("_law_at", 3)]) (g := gName 3) (tt := _) rfl sc_law_holds.nd (pi_any (own_it T) (hr.mono (by decide)) (pv 2)) (blkOk_by (own := [("_law_at", 3)]) (N := ["_law_found", "_law_chosen", "_law_one", "_law_at"]) (sc := defScope s_law_holds) (by decide +kernel)) (fun _ _ _ _ _ => pg_name (i := 3) sc_law_holds.nd rfl (by first | exact Or.inl rfl | exact Or.inr rfl)) (fun _ _ _ _ _ => pts_one (pt_cmpR (op_notInK K rfl) (pv 3) (pv 1) (by rfl))) (fun _ _ _ _ _ => (pv 3))) (pe_lst pa_nil) (nomark _)) (pss_one (ps_ret pe_bl))
      pss_nil)))
      (pss_one (ps_ret pe_bl))), ?_⟩
  -- slots: 0:_law_found 1:_law_chosen 2:_law_one 3:_law_at
  obtain ⟨x, y, rfl, ls, l, dx, dy, l6, lls, lm, q⟩ := h
  obtain ⟨a, xs, rfl, sx, ax⟩ := dx.lstI
  obtain ⟨b, rfl, sb⟩ := nD_sq dy
  have lin : 2000 < sizeLine := by rw [sizeLine_eq]; omega
  have lx : xs.length = ls.length := by rw [ax.len, List.length_map]
  have J : Wk (cLot K) "places" K H a xs _ := .l sx
  unfold holdsF at q
  refine ⟨_, rfl, a, _, _, rfl, J, for_any J (fun i σ H' => ∃ v2, σ = [some (.ref a), some (.ref b), v2, none] ∧ Ext H H' ∧ ((ls.take i).any fun m => m.all fun a => decide (a ∈ l)) = false) ⟨_, rfl, Ext.rfl', rfl⟩ (fun i σ H' z => by obtain ⟨_, _, x, _⟩ := z; exact x) ?_ ?_⟩
  · rintro i v σ H1 hi ⟨v2, rfl, x1, hf⟩
    obtain ⟨d, hd, dv⟩ := ax.get hi
    rw [List.getElem?_map] at hd
    obtain ⟨m, hm, rfl⟩ := Option.map_eq_some_iff.mp hd
    obtain ⟨c, rfl, sc⟩ := nD_sq dv
    have m6 := lm m (List.mem_of_getElem? hm)
    have e1 := any_snoc (fun m => m.all fun a => decide (a ∈ l)) hm
    rw [hf, Bool.false_or] at e1
    have J2 : Wk (cLot K) "places" K H1 c (nV m) _ := .t (sc.ext x1)
    refine ⟨_, rfl, c, _, _, rfl, J2, fun D hD => lcD_any J2 (fun k => (m[k]?).bind fun a => if (!decide (a ∈ l)) = true then some (.int (a : Nat)) else none) hD (by rw [nV_len]; omega) ?_ ?_⟩
    · intro k x' H' Nx hk y1 tn
      unfold nV at hk
      rw [List.getElem?_map] at hk
      obtain ⟨e, he, rfl⟩ := Option.map_eq_some_iff.mp hk
      refine ⟨rfl, _, rfl, _, rfl, b, _, rfl, .inr ((sb.ext x1).ext (y1.trans off_le)), rfl, flat_n l, _, rfl, ?_⟩
      show if (!inV (V.int (e : Nat)) (nV l)) = true then _ else _
      rw [inV_n]
      by_cases h : e ∈ l
      · rw [decide_eq_true h]
        exact iteF (tn.drop0 (by rw [he]; exact if_neg (by rw [decide_eq_true h]; exact Bool.false_ne_true)))
      · rw [decide_eq_false h]
        exact iteT ⟨_, rfl, tn.keep0 (d := .int (e : Nat)) (by rw [he]; exact if_pos (by rw [decide_eq_false h]; rfl)) (.int _)⟩
    · intro H2 md
      rw [nV_len, fm_bind, fm_if] at md
      have dL := md.dp
      have x2 := md.ext1
      have ee : (m.filter fun a => !decide (a ∈ l)).map (fun a => PyData.int (a : Nat)) = ((m.filter fun a => !decide (a ∈ l)).map Int.ofNat).map PyData.int := by
        rw [List.map_map]
        rfl
      rw [ee] at dL
      refine ⟨Nat.zero_le _, fun E hE => ⟨_, .list [], dL.ext (Ext.upd hE), .lst (.of upd_same) .nil, (shp_ints _).ed (by decide), by decide +kernel, _, congrArg V.bl ((eqv_nil _).trans (filt_nil m l)), ?_⟩⟩
      have x3 := x1.trans (x2.trans (Ext.upd hE (o := .lst [])))
      cases h2 : m.all fun a => decide (a ∈ l) with
      | true =>
        refine iteT ?_
        have e2 : (ls.any fun m => m.all fun a => decide (a ∈ l)) = true := List.any_eq_true.mpr ⟨m, List.mem_of_getElem? hm, h2⟩
        rw [e2] at q
        exact q _ x3
      | false =>
        rw [h2] at e1
        exact iteF ⟨_, rfl, x3, e1⟩
  · rintro σ H1 ⟨v2, rfl, x1, hf⟩
    rw [lx, List.take_length] at hf
    rw [hf] at q
    exact q _ x1
end
end Sv
namespace Sv
open PySem PySem.Spec PyProof.Rows L2
/-! ### edited, behind, due -/
def StL (K : PySem.W.Frag) (H : Hp) (v : V) (s : St) : Prop := ∃ t d a b, v = .ref t ∧ SqT K H t [.ref d, .ref a, .ref b] ∧ SeatsL K H d s.ss ∧ SqL K H a (s.sv.map oV) ∧ SqL K H b (s.bk.map oV)
theorem StL.ext {K : PySem.W.Frag} {H H' : Hp} {v : V} {s : St} (h : StL K H v s) (e : Ext H H') : StL K H' v s := by
  obtain ⟨t, d, a, b, rfl, h1, h2, h3, h4⟩ := h
  exact ⟨t, d, a, b, rfl, h1.ext e, h2.ext e, h3.ext e, h4.ext e⟩
structure StOk (m c : Nat) (s : St) : Prop where
  nd : (s.ss.map Prod.fst).Nodup
  l4 : s.ss.length ≤ 4
  lu : ∀ t ∈ s.ss, t.2.length ≤ c
  ls : s.sv.length = m
  lb : s.bk.length = m
theorem putU_len (b : Bool) (k : Int) (l : List Int) : (putU b k l).length ≤ l.length + 1 := by
  have := List.length_filter_le (fun j => !decide (j = k)) l
  cases b
  · show (l.filter _).length ≤ _
    omega
  · show (l.filter _ ++ [k]).length ≤ _
    rw [List.length_append, List.length_singleton]
    omega
theorem StOk.step {m c : Nat} {s : St} (h : StOk m c s) (e : Ed) : StOk m (c + 1) (stepE e s) := by
  have en := step_names e s
  cases e with
  | «at» b n k =>
    refine ⟨by rw [en]; exact h.nd, by show (s.ss.map _).length ≤ 4; rw [List.length_map]; exact h.l4, fun t ht => ?_, h.ls, h.lb⟩
    obtain ⟨u, hu, rfl⟩ := List.mem_map.mp ht
    have := h.lu u hu
    by_cases c : u.1 = n
    · rw [if_pos c]
      have := putU_len b k u.2
      show (putU b k u.2).length ≤ _
      omega
    · rw [if_neg c]
      omega
  | price g b o =>
    refine ⟨h.nd, h.l4, fun t ht => Nat.le_succ_of_le (h.lu t ht), ?_, ?_⟩
    · show (if b then s.sv.set g o else s.sv).length = m
      split
      · rw [List.length_set]
        exact h.ls
      · exact h.ls
    · show (if b then s.bk else s.bk.set g o).length = m
      split
      · exact h.lb
      · rw [List.length_set]
        exact h.lb
theorem paired_imp {α β : Type} {F G : α → β → Prop} (h : ∀ a b, F a b → G a b) : ∀ {l : List α} {m : List β}, Paired F l m → Paired G l m
  | _, _, .nil => .nil
  | _, _, .cons a t => .cons (h _ _ a) (paired_imp h t)
theorem merge_snoc (kvs : List (Key × V)) (k : Key) (v : V) : mergeK [] (kvs ++ [(k, v)]) = putK (mergeK [] kvs) k v := by
  unfold mergeK
  rw [List.foldl_append]
  rfl
theorem nodup_fst {α β : Type} {l : List (α × β)} (h : (l.map Prod.fst).Nodup) {a b : α × β} (ha : a ∈ l) (hb : b ∈ l) (e : a.1 = b.1) : a = b := by
  induction l with
  | nil => cases ha
  | cons x l ih =>
    rw [List.map_cons, List.nodup_cons] at h
    rcases List.mem_cons.mp ha with e1 | ha1
    · rcases List.mem_cons.mp hb with e2 | hb1
      · rw [e1, e2]
      · exact absurd (List.mem_map.mpr ⟨b, hb1, by rw [← e, e1]⟩) h.1
    · rcases List.mem_cons.mp hb with e2 | hb1
      · exact absurd (List.mem_map.mpr ⟨a, ha1, by rw [e, e2]⟩) h.1
      · exact ih h.2 ha1 hb1
structure OkL (n : Int) (m : Nat) (ns : List PySem.Str) (e : Ed) : Prop where
  at_ : ∀ b x k, e = .at b x k → x ∈ ns ∧ InR n k
  pr : ∀ g b o, e = .price g b o → g < m ∧ OkP o
def spLEdited (K : PySem.W.Frag) : Sp := sp3 fun x y z H Q => ∃ n ps o gs s e m, Dp K H x (toldD n ps o gs) ∧ StL K H y s ∧ Dp K H z (edD e) ∧ OkL n m (s.ss.map Prod.fst) e ∧ StOk m 100 s ∧ m ≤ 200 ∧
  ∀ v t H', Ext H H' → SqT K H' v [.str "done", t] → StL K H' t (stepE e s) → Q (.ref v) H'
theorem nz3 : decide (V.int ((3 : Nat) : Int) = V.int 0) = false := by decide +kernel
theorem sk_setU (b : Bool) (n : PySem.Str) (k : Int) (ss : SL) : sk (setU b n k ss) = sk ss := by
  have := fst_setU b n k ss
  have e : ∀ l : SL, sk l = (l.map Prod.fst).map Sum.inr := fun l => by
    unfold sk
    rw [List.map_map]
    rfl
  rw [e, e, this]
section
variable {P : Program} {w : World} {K : PySem.W.Frag} {mg : PySem.Str → Option Value} {base : Heap}
theorem words_in (b : Bool) : inV (.str (wd b)) [.str "save", .str "back"] = true := by cases b <;> decide +kernel
theorem wd_sv (b : Bool) : decide (V.str (wd b) = V.str "save") = b := by cases b <;> decide +kernel
theorem set_map {os : List (Option Int)} {g : Nat} {o : Option Int} (hg : g < os.length) : cutV (os.map oV) none (some (g : Int)) ++ [oV o] ++ cutV (os.map oV) (some ((g + 1 : Nat) : Int)) none = (os.set g o).map oV := by
  rw [cut_take, cut_drop, List.set_eq_take_append_cons_drop, if_pos hg, List.map_append, List.map_cons, List.map_take, List.map_drop, List.append_assoc]
  rfl
theorem uw_use (b : Bool) : decide (V.str (uw b) = V.str "use") = b := by cases b <;> decide +kernel
theorem shp_shapesL : SeqAt.shaped (.list shapesD) = true := (shp.lst (k := 1) fun d hd => by
  unfold shapesD at hd
  simp only [List.mem_cons, List.not_mem_nil, or_false] at hd
  rcases hd with rfl | rfl | rfl <;> exact shS2 _ _ (by decide +kernel)).ed (by decide)
/-- the tuples of the shapes, laid anew -/
theorem shapes_mk {K : PySem.W.Frag} {H : Hp} {t1 t2 t3 l : Addr} (h1 : H t1 = none) (h2 : upd H t1 (.tup [.str "use", .int 3]) t2 = none) (h3 : upd (upd H t1 (.tup [.str "use", .int 3])) t2 (.tup [.str "free", .int 3]) t3 = none)
    (h4 : upd (upd (upd H t1 (.tup [.str "use", .int 3])) t2 (.tup [.str "free", .int 3])) t3 (.tup [.str "price", .int 4]) l = none) :
    Ext H (upd (upd (upd (upd H t1 (.tup [.str "use", .int 3])) t2 (.tup [.str "free", .int 3])) t3 (.tup [.str "price", .int 4])) l (.lst [.ref t1, .ref t2, .ref t3])) ∧
    Dp K (upd (upd (upd (upd H t1 (.tup [.str "use", .int 3])) t2 (.tup [.str "free", .int 3])) t3 (.tup [.str "price", .int 4])) l (.lst [.ref t1, .ref t2, .ref t3])) (.ref l) (.list shapesD) := by
  have x1 := Ext.upd h1 (o := .tup [.str "use", .int 3])
  have x2 := Ext.upd h2 (o := .tup [.str "free", .int 3])
  have x3 := Ext.upd h3 (o := .tup [.str "price", .int 4])
  have x4 := Ext.upd h4 (o := .lst [.ref t1, .ref t2, .ref t3])
  refine ⟨x1.trans (x2.trans (x3.trans x4)), .lst (.of upd_same) (.cons (.tup (.of ((x2.trans (x3.trans x4)) _ _ upd_same)) ?_) (.cons (.tup (.of ((x3.trans x4) _ _ upd_same)) ?_) (.cons (.tup (.of (x4 _ _ upd_same)) ?_) .nil)))⟩
  · exact .cons (.str _) (.cons (.int _) .nil)
  · exact .cons (.str _) (.cons (.int _) .nil)
  · exact .cons (.str _) (.cons (.int _) .nil)
theorem sc_law_edited : FnScope ["_law_told", "_law_state", "_law_edit_here", "_law_seats_here", "_law_saves", "_law_backs", "_law_uses", "_law_place"] ["_law_told", "_law_state", "_law_edit_here"] (defScope s_law_edited) := ⟨rfl, rfl, rfl, by decide +kernel, rfl, by decide +kernel, by decide +kernel⟩
theorem c_law_edited (T : Txt K mg) : C8.Cal P w K mg base 1 "_law_edited" (spLEdited K) [] := by
  obtain ⟨fd, F⟩ := T.f_law_edited
  refine calN F T.g_law_edited sc_law_edited (F.bindsN fun _ _ _ _ _ _ us hl => match us, hl with | [_, _, _], _ => rfl) len3 (fun cdv A outer s H vs Q E hr h => ?_)
  refine ⟨_, (pss_cons (ps_asg (pv 1) (pg_tup (by rfl) (pgs_cons (pg_name (i := 3) sc_law_edited.nd rfl (by first | exact Or.inl rfl | exact Or.inr rfl)) (pgs_cons (pg_name (i := 4) sc_law_edited.nd rfl (by first | exact Or.inl rfl | exact Or.inr rfl)) (pgs_cons (pg_name (i := 5) sc_law_edited.nd rfl (by first | exact Or.inl rfl | exact Or.inr rfl)) pgs_nil)))))
      (pss_cons (ps_if (PW.pt (pw_or (pt_cmpR op_eq (pe_callB call_len (by rfl) T.b_len (by decide +kernel) (pa_cons (pv 2) pa_nil)) pe_int (nomark _)) (pw_or1 (pt_cmpR (op_notInD (hu65 hr)) (pe_tup (pa_cons (pe_ix ix_tup (pv 2) pe_int (fun _ _ => rfl)) (pa_cons (pe_callB call_len (by rfl) T.b_len (by decide +kernel) (pa_cons (pv 2) pa_nil)) pa_nil))) (pe_lst (pa_cons (pe_tup (pa_cons pe_str (pa_cons pe_int pa_nil))) (pa_cons (pe_tup (pa_cons pe_str (pa_cons pe_int pa_nil))) (pa_cons (pe_tup (pa_cons pe_str (pa_cons pe_int pa_nil))) pa_nil)))) (by rfl))))) (pss_one (ps_ret (pe_tup (pa_cons pe_str (pa_cons (pv 2) pa_nil)))))
      pss_nil)
      (pss_cons (ps_if (pt_cmpR op_ne (pe_ix ix_tup (pv 2) pe_int (fun _ _ => rfl)) pe_str (nomark _)) (pss_cons (ps_if (pt_cmp (pc_dnotin (hu_of hr) (pe_ix ix_tup (pv 2) pe_int (fun _ _ => rfl)) (pv 3))) (pss_one (ps_ret (pe_tup (pa_cons pe_str (pa_cons (pe_ix ix_tup (pv 2) pe_int (fun _ _ => rfl)) pa_nil)))))
      pss_nil)
      (pss_cons (ps_if (pt_not (pt_chain op_le op_lt pe_int (pe_ix ix_tup (pv 2) pe_int (fun _ _ => rfl)) (pe_ix ix_tup (pv 0) pe_int (fun _ _ => rfl)))) (pss_one (ps_ret (pe_tup (pa_cons pe_str (pa_cons (pe_ix ix_tup (pv 2) pe_int (fun _ _ => rfl)) pa_nil)))))
      pss_nil)
      (pss_cons (ps_setLc (i := 6) (own := [("_law_place", 7)]) (g := gName 7) (tt := _) rfl sc_law_edited.nd rfl rfl (sw_true rfl rfl rfl (by decide +kernel)) (pi_list (pe_dget (hu_of hr) (pv 3) (pe_ix ix_tup (pv 2) pe_int (fun _ _ => rfl)) (fun _ _ => rfl))) (blkOk_by (own := [("_law_place", 7)]) (N := ["_law_told", "_law_state", "_law_edit_here", "_law_seats_here", "_law_saves", "_law_backs", "_law_uses", "_law_place"]) (sc := defScope s_law_edited) (by decide +kernel)) (fun _ _ _ _ _ => pg_name (i := 7) sc_law_edited.nd rfl (by first | exact Or.inl rfl | exact Or.inr rfl)) (fun _ _ _ _ _ => pts_one (pt_cmpR op_ne (pv 7) (pe_ix (ix_tupK K rfl) (pv 2) pe_int (fun _ _ => rfl)) (nomark _))) (fun _ _ _ _ _ => (pv 7)))
      (C8.pss_cut (ps_if (pt_cmpR op_eq (pe_ix ix_tup (pv 2) pe_int (fun _ _ => rfl)) pe_str (nomark _)) (pss_one (ps_set (i := 6) sc_law_edited.nd rfl (by first | exact Or.inl rfl | exact Or.inr rfl) (pe_op op_cat (pv 6) (pe_lst (pa_cons (pe_ix ix_tup (pv 2) pe_int (fun _ _ => rfl)) pa_nil)))))
      pss_nil)
      (pss_one (ps_ret (pe_tup (pa_cons pe_str (pa_cons (pe_tup (pa_cons (pe_callTy (call_dictP rfl) (by rfl) T.b_dict (by decide +kernel) (pa_cons (pe_op op_cat (LiI.pe_listItems rfl (pv 3) (by rfl) T.b_list (by decide +kernel)) (pe_lst (pa_cons (pe_tup (pa_cons (pe_ix ix_tup (pv 2) pe_int (fun _ _ => rfl)) (pa_cons (pv 6) pa_nil))) pa_nil))) pa_nil)) (pa_cons (pv 4) (pa_cons (pv 5) pa_nil)))) pa_nil)))))))))
      pss_nil)
      (pss_cons (ps_if (pt_not (pt_chain op_le op_lt pe_int (pe_ix ix_tup (pv 2) pe_int (fun _ _ => rfl)) (pe_callB call_len (by rfl) T.b_len (by decide +kernel) (pa_cons (pv 4) pa_nil)))) (pss_one (ps_ret (pe_tup (pa_cons pe_str (pa_cons (pe_ix ix_tup (pv 2) pe_int (fun _ _ => rfl)) pa_nil)))))
      pss_nil)
      (pss_cons (ps_if (pt_cmpR op_notIn_seq (pe_ix ix_tup (pv 2) pe_int (fun _ _ => rfl)) (pe_lst (pa_cons pe_str (pa_cons pe_str pa_nil))) (by rfl)) (pss_one (ps_ret (pe_tup (pa_cons pe_str (pa_cons (pe_ix ix_tup (pv 2) pe_int (fun _ _ => rfl)) pa_nil)))))
      pss_nil)
      (C8.pss_cut (ps_if (PW.pt (pw_and (pt_cmpR op_notN (pe_ix ix_tup (pv 2) pe_int (fun _ _ => rfl)) pe_non (nomark _)) (pw_and1 (pt_not (pt_chain op_le op_le pe_int (pe_ix ix_tup (pv 2) pe_int (fun _ _ => rfl)) pe_int))))) (pss_one (ps_ret (pe_tup (pa_cons pe_str (pa_cons (pe_ix ix_tup (pv 2) pe_int (fun _ _ => rfl)) pa_nil)))))
      pss_nil)
      (pss_cons (ps_if (pt_cmpR op_eq (pe_ix ix_tup (pv 2) pe_int (fun _ _ => rfl)) pe_str (nomark _)) (pss_one (ps_ret (pe_tup (pa_cons pe_str (pa_cons (pe_tup (pa_cons (pv 3) (pa_cons (pe_op op_cat (pe_op op_cat (pe_slice sl_list (pv 4) po_none (po_some (pe_ix ix_tup (pv 2) pe_int (fun _ _ => rfl)))) (pe_lst (pa_cons (pe_ix ix_tup (pv 2) pe_int (fun _ _ => rfl)) pa_nil))) (pe_slice sl_list (pv 4) (po_some (pe_op op_add (pe_ix ix_tup (pv 2) pe_int (fun _ _ => rfl)) pe_int)) po_none)) (pa_cons (pv 5) pa_nil)))) pa_nil)))))
      pss_nil)
      (pss_one (ps_ret (pe_tup (pa_cons pe_str (pa_cons (pe_tup (pa_cons (pv 3) (pa_cons (pv 4) (pa_cons (pe_op op_cat (pe_op op_cat (pe_slice sl_list (pv 5) po_none (po_some (pe_ix ix_tup (pv 2) pe_int (fun _ _ => rfl)))) (pe_lst (pa_cons (pe_ix ix_tup (pv 2) pe_int (fun _ _ => rfl)) pa_nil))) (pe_slice sl_list (pv 5) (po_some (pe_op op_add (pe_ix ix_tup (pv 2) pe_int (fun _ _ => rfl)) pe_int)) po_none)) pa_nil)))) pa_nil)))))))))))), ?_⟩
  -- slots: 0:_law_told 1:_law_state 2:_law_edit_here 3:_law_seats_here 4:_law_saves 5:_law_backs 6:_law_uses 7:_law_place
  obtain ⟨x, y, z, rfl, n, ps, o, gs, s, e, m, dp, hst, he, oe, sok, m200, q⟩ := h
  have lin : 2000 < sizeLine := by rw [sizeLine_eq]; omega
  obtain ⟨tt, xs, rfl, st, al⟩ := dp.tupI
  obtain ⟨v0, v1, v2, v3, rfl, d0, d1, d2, d3⟩ := DpAll.four al
  obtain rfl := d0.intI
  obtain ⟨ys, ads, rfl, sy, ay⟩ := id he.tupI
  obtain ⟨ts, d, a, b, rfl, hts, ⟨F, hd, hF⟩, sa, sb⟩ := id hst
  refine ⟨_, rfl, ts, _, rfl, hts, rfl, _, _, rfl, _, _, rfl, _, _, rfl, rfl, ?_⟩
  cases e with
  | price g w o' =>
    obtain ⟨u0, u1, u2, u3, rfl, e0, e1, e2, e3⟩ := DpAll.four ay
    obtain rfl := e0.strI
    obtain rfl := e1.intI
    obtain rfl := e2.strI
    obtain rfl := e3.oIi
    obtain ⟨hg, ho⟩ := oe.pr _ _ _ rfl
    have ls := sok.ls
    have lb := sok.lb
    refine ⟨_, rfl, _, _, rfl, .inr ⟨_, sy, rfl⟩, rfl, false, congrArg V.bl (decide_eq_false (by intro z; have := V.int.inj z; simp at this)), iteF ?_⟩
    refine ⟨_, rfl, ys, _, _, _, rfl, rfl, sy, rfl, _, rfl, _, _, rfl, .inr ⟨_, sy, rfl⟩, by show 2 ≤ sizeLine; omega, fun mm hm => ?_⟩
    have x1 := Ext.upd hm (o := .tup [.str "price", .int 4])
    refine ⟨by show 2 ≤ sizeLine; omega, fun t1 h1 => ⟨by show 2 ≤ sizeLine; omega, fun t2 h2 => ⟨by show 2 ≤ sizeLine; omega, fun t3 h3 => ⟨by show 3 ≤ sizeLine; omega, fun l h4 => ?_⟩⟩⟩⟩
    obtain ⟨x2, dsh⟩ := shapes_mk (K := K) h1 h2 h3 h4
    have ev : (shapesD.any fun z => PyData.eqv z (.tuple [.str "price", .int 4])) = true := by decide +kernel
    refine ⟨.tuple [.str "price", .int 4], shapesD, .tup (.of (x2 _ _ upd_same)) (.cons (.str _) (.cons (.int _) .nil)), dsh, (shS2 _ _ (by decide +kernel)).ed (by decide), shp_shapesL, false, congrArg V.bl (by rw [ev]; rfl), iteF ?_⟩
    have x12 := x1.trans x2
    generalize upd (upd (upd (upd (upd H mm (.tup [.str "price", .int 4])) t1 (.tup [.str "use", .int 3])) t2 (.tup [.str "free", .int 3])) t3 (.tup [.str "price", .int 4])) l (.lst [.ref t1, .ref t2, .ref t3]) = H1 at x12 dsh ⊢
    have sy1 := sy.ext x12
    have sa1 := sa.ext x12
    have sb1 := sb.ext x12
    refine ⟨_, rfl, ys, _, _, _, rfl, rfl, sy1, rfl, rfl, _, rfl, ?_⟩
    show if (!decide (V.str "price" = V.str "price")) = true then _ else _
    rw [p_p]
    refine iteF ⟨_, rfl, ys, _, _, _, rfl, rfl, sy1, rfl, 0, (g : Nat), rfl, rfl, true, congrArg V.bl (decide_eq_true (by omega)), iteT ⟨_, rfl, _, _, rfl, .inl ⟨_, sa1, rfl⟩, (g : Nat), _, rfl, rfl, true, congrArg V.bl (decide_eq_true (by rw [List.length_map]; omega)), iteF ?_⟩⟩
    refine ⟨_, rfl, ys, _, _, _, rfl, rfl, sy1, rfl, by show 2 ≤ sizeLine; omega, fun l1 hl1 => ⟨l1, _, rfl, .inl (.of upd_same), rfl, rfl, _, rfl, ?_⟩⟩
    show if (!inV (V.str (wd w)) [.str "save", .str "back"]) = true then _ else _
    rw [words_in]
    have x13 := x12.trans (Ext.upd hl1 (o := .lst [.str "save", .str "back"]))
    generalize upd H1 l1 (.lst [.str "save", .str "back"]) = H2 at x13 ⊢
    have sy2 := sy.ext x13
    have sa2 := sa.ext x13
    have sb2 := sb.ext x13
    refine iteF ?_
    refine ⟨fun σ' H' => σ' = [some (.ref tt), some (.ref ts), some (.ref ys), some (.ref d), some (.ref a), some (.ref b), none, none] ∧ H2 = H', ?_, ?_⟩
    · cases o' with
      | none => exact ⟨_, rfl, ys, _, _, _, rfl, rfl, sy2, rfl, rfl, false, rfl, iteF ⟨rfl, rfl⟩⟩
      | some i =>
        obtain ⟨i0, i1⟩ := ho i rfl
        exact ⟨_, rfl, ys, _, _, _, rfl, rfl, sy2, rfl, rfl, true, rfl, iteT ⟨_, rfl, ys, _, _, _, rfl, rfl, sy2, rfl, 0, i, rfl, rfl, true, congrArg V.bl (decide_eq_true i0), iteT ⟨i, 100000, rfl, rfl, true, congrArg V.bl (decide_eq_true i1), iteF ⟨rfl, rfl⟩⟩⟩⟩
    rintro σ' H' ⟨rfl, rfl⟩
    refine ⟨_, rfl, ys, _, _, _, rfl, rfl, sy2, rfl, rfl, _, rfl, ?_⟩
    show if decide (V.str (wd w) = V.str "save") = true then _ else _
    rw [wd_sv]
    cases w with
    | true =>
      refine iteT ⟨_, rfl, _, rfl, _, rfl, ys, _, _, _, rfl, rfl, sy2, rfl, _, rfl, a, _, rfl, sa2, fun p1 hp1 => ?_⟩
      have y1 := Ext.upd hp1 (o := .lst (cutV (s.sv.map oV) none (some (g : Int))))
      have cl1 := cutV_length (s.sv.map oV) none (some (g : Int))
      have cl2 := cutV_length (s.sv.map oV) (some ((g + 1 : Nat) : Int)) none
      rw [List.length_map] at cl1 cl2
      refine ⟨_, rfl, ys, _, _, _, rfl, rfl, sy2.ext y1, rfl, by show 1 ≤ sizeLine; omega, fun l2 hl2 => ?_⟩
      have y2 := y1.trans (Ext.upd hl2 (o := .lst [oV o']))
      refine ⟨p1, l2, _, _, rfl, rfl, Ext.upd hl2 _ _ upd_same, upd_same, by show _ + 1 ≤ sizeLine; omega, fun p2 hp2 => ?_⟩
      have y3 := y2.trans (Ext.upd hp2 (o := .lst (cutV (s.sv.map oV) none (some (g : Int)) ++ [oV o'])))
      refine ⟨_, rfl, _, rfl, ys, _, _, _, rfl, rfl, sy2.ext y3, rfl, _, _, rfl, rfl, ((g + 1 : Nat) : Int), congrArg V.int (Int.natCast_succ g).symm, ?_⟩
      refine ⟨a, _, rfl, sa2.ext y3, fun p3 hp3 => ?_⟩
      have y4 := y3.trans (Ext.upd hp3 (o := .lst (cutV (s.sv.map oV) (some ((g + 1 : Nat) : Int)) none)))
      refine ⟨p2, p3, _, _, rfl, rfl, Ext.upd hp3 _ _ upd_same, upd_same, by rw [List.length_append, List.length_singleton]; omega, fun p4 hp4 => ?_⟩
      have y5 := y4.trans (Ext.upd hp4 (o := .lst (cutV (s.sv.map oV) none (some (g : Int)) ++ [oV o'] ++ cutV (s.sv.map oV) (some ((g + 1 : Nat) : Int)) none)))
      have hp : SqL K (upd (upd (upd (upd (upd H2 p1 (.lst (cutV (s.sv.map oV) none (some (g : Int))))) l2 (.lst [oV o'])) p2 (.lst (cutV (s.sv.map oV) none (some (g : Int)) ++ [oV o']))) p3 (.lst (cutV (s.sv.map oV) (some ((g + 1 : Nat) : Int)) none))) p4 (.lst (cutV (s.sv.map oV) none (some (g : Int)) ++ [oV o'] ++ cutV (s.sv.map oV) (some ((g + 1 : Nat) : Int)) none))) p4 ((s.sv.set g o').map oV) := .of (by rw [upd_same, set_map (by omega)])
      refine ⟨_, rfl, by show 3 ≤ sizeLine; omega, fun t5 h5 => ⟨by show 2 ≤ sizeLine; omega, fun t6 h6 => ?_⟩⟩
      have y6 := Ext.upd h5 (o := .tup [.ref d, .ref p4, .ref b])
      have y7 := Ext.upd h6 (o := .tup [.str "done", .ref t5])
      have yy := y6.trans y7
      have y17 := x13.trans (y5.trans yy)
      exact q t6 (.ref t5) _ y17 (.of upd_same) ⟨t5, d, p4, b, rfl, .of (y7 _ _ upd_same), ⟨F, y17 _ _ hd, fun s hs => (hF s hs).imp fun a z => ⟨z.1, y17 _ _ z.2⟩⟩, hp.ext yy, sb.ext y17⟩
    | false =>
      refine iteF ⟨_, rfl, _, rfl, _, rfl, _, rfl, ys, _, _, _, rfl, rfl, sy2, rfl, _, rfl, b, _, rfl, sb2, fun p1 hp1 => ?_⟩
      have y1 := Ext.upd hp1 (o := .lst (cutV (s.bk.map oV) none (some (g : Int))))
      have cl1 := cutV_length (s.bk.map oV) none (some (g : Int))
      have cl2 := cutV_length (s.bk.map oV) (some ((g + 1 : Nat) : Int)) none
      rw [List.length_map] at cl1 cl2
      refine ⟨_, rfl, ys, _, _, _, rfl, rfl, sy2.ext y1, rfl, by show 1 ≤ sizeLine; omega, fun l2 hl2 => ?_⟩
      have y2 := y1.trans (Ext.upd hl2 (o := .lst [oV o']))
      refine ⟨p1, l2, _, _, rfl, rfl, Ext.upd hl2 _ _ upd_same, upd_same, by show _ + 1 ≤ sizeLine; omega, fun p2 hp2 => ?_⟩
      have y3 := y2.trans (Ext.upd hp2 (o := .lst (cutV (s.bk.map oV) none (some (g : Int)) ++ [oV o'])))
      refine ⟨_, rfl, _, rfl, ys, _, _, _, rfl, rfl, sy2.ext y3, rfl, _, _, rfl, rfl, ((g + 1 : Nat) : Int), congrArg V.int (Int.natCast_succ g).symm, ?_⟩
      refine ⟨b, _, rfl, sb2.ext y3, fun p3 hp3 => ?_⟩
      have y4 := y3.trans (Ext.upd hp3 (o := .lst (cutV (s.bk.map oV) (some ((g + 1 : Nat) : Int)) none)))
      refine ⟨p2, p3, _, _, rfl, rfl, Ext.upd hp3 _ _ upd_same, upd_same, by rw [List.length_append, List.length_singleton]; omega, fun p4 hp4 => ?_⟩
      have y5 := y4.trans (Ext.upd hp4 (o := .lst (cutV (s.bk.map oV) none (some (g : Int)) ++ [oV o'] ++ cutV (s.bk.map oV) (some ((g + 1 : Nat) : Int)) none)))
      have hp : SqL K (upd (upd (upd (upd (upd H2 p1 (.lst (cutV (s.bk.map oV) none (some (g : Int))))) l2 (.lst [oV o'])) p2 (.lst (cutV (s.bk.map oV) none (some (g : Int)) ++ [oV o']))) p3 (.lst (cutV (s.bk.map oV) (some ((g + 1 : Nat) : Int)) none))) p4 (.lst (cutV (s.bk.map oV) none (some (g : Int)) ++ [oV o'] ++ cutV (s.bk.map oV) (some ((g + 1 : Nat) : Int)) none))) p4 ((s.bk.set g o').map oV) := .of (by rw [upd_same, set_map (by omega)])
      refine ⟨by show 3 ≤ sizeLine; omega, fun t5 h5 => ⟨by show 2 ≤ sizeLine; omega, fun t6 h6 => ?_⟩⟩
      have y6 := Ext.upd h5 (o := .tup [.ref d, .ref a, .ref p4])
      have y7 := Ext.upd h6 (o := .tup [.str "done", .ref t5])
      have yy := y6.trans y7
      have y17 := x13.trans (y5.trans yy)
      exact q t6 (.ref t5) _ y17 (.of upd_same) ⟨t5, d, a, p4, rfl, .of (y7 _ _ upd_same), ⟨F, y17 _ _ hd, fun s hs => (hF s hs).imp fun a z => ⟨z.1, y17 _ _ z.2⟩⟩, sa.ext y17, hp.ext yy⟩
  | «at» w nm k0 =>
    obtain ⟨u0, u1, u2, rfl, e0, e1, e2⟩ := DpAll.three ay
    obtain rfl := e0.strI
    obtain rfl := e1.strI
    obtain rfl := e2.intI
    obtain ⟨hn, k1, k2⟩ := oe.at_ _ _ _ rfl
    obtain ⟨s', hs', en⟩ := List.mem_map.mp hn
    refine ⟨_, rfl, _, _, rfl, .inr ⟨_, sy, rfl⟩, rfl, false, congrArg V.bl (decide_eq_false (by intro z; have := V.int.inj z; simp at this)), iteF ?_⟩
    refine ⟨_, rfl, ys, _, _, _, rfl, rfl, sy, rfl, _, rfl, _, _, rfl, .inr ⟨_, sy, rfl⟩, by show 2 ≤ sizeLine; omega, fun mm hm => ?_⟩
    have x1 := Ext.upd hm (o := .tup [.str (uw w), .int 3])
    refine ⟨by show 2 ≤ sizeLine; omega, fun t1 h1 => ⟨by show 2 ≤ sizeLine; omega, fun t2 h2 => ⟨by show 2 ≤ sizeLine; omega, fun t3 h3 => ⟨by show 3 ≤ sizeLine; omega, fun l h4 => ?_⟩⟩⟩⟩
    obtain ⟨x2, dsh⟩ := shapes_mk (K := K) h1 h2 h3 h4
    have ev : (shapesD.any fun z => PyData.eqv z (.tuple [.str (uw w), .int 3])) = true := by cases w <;> decide +kernel
    refine ⟨.tuple [.str (uw w), .int 3], shapesD, .tup (.of (x2 _ _ upd_same)) (.cons (.str _) (.cons (.int _) .nil)), dsh, (shS2 _ _ (uw_ok w)).ed (by decide), shp_shapesL, false, congrArg V.bl (by rw [ev]; rfl), iteF ?_⟩
    have x12 := x1.trans x2
    generalize upd (upd (upd (upd (upd H mm (.tup [.str (uw w), .int 3])) t1 (.tup [.str "use", .int 3])) t2 (.tup [.str "free", .int 3])) t3 (.tup [.str "price", .int 4])) l (.lst [.ref t1, .ref t2, .ref t3]) = H1 at x12 dsh ⊢
    have sy1 := sy.ext x12
    have st1 := st.ext x12
    have hd1 := x12 _ _ hd
    refine ⟨_, rfl, ys, _, _, _, rfl, rfl, sy1, rfl, rfl, _, rfl, ?_⟩
    show if (!decide (V.str (uw w) = V.str "price")) = true then _ else _
    rw [uw_p]
    have hm : (Sum.inr nm : Key) ∈ sk s.ss := mem_sk.mpr hn
    have get : DGet H1 d (V.str nm) (some (F (Sum.inr nm))) := .inl ⟨_, Sum.inr nm, .inl hd1, rfl, by rw [dg_val, if_pos hm]⟩
    refine iteT ⟨_, rfl, ys, _, _, _, rfl, rfl, sy1, rfl, _, rfl, d, _, rfl, get, _, rfl, iteF ?_⟩
    refine ⟨_, rfl, ys, _, _, _, rfl, rfl, sy1, rfl, 0, k0, rfl, rfl, true, congrArg V.bl (decide_eq_true k1), iteT ⟨_, rfl, tt, _, _, _, rfl, rfl, st1, rfl, k0, n, rfl, rfl, true, congrArg V.bl (decide_eq_true k2), iteF ?_⟩⟩
    obtain ⟨la, ea, sl⟩ := hF s' hs'
    rw [en] at ea
    refine ⟨_, rfl, _, rfl, ys, _, _, _, rfl, rfl, sy1, rfl, d, _, rfl, get, ?_⟩
    rw [ea]
    have lu := sok.lu s' hs'
    refine ⟨la, rfl, ⟨_, .of (x12 _ _ sl)⟩, fun D hD => lcD_list (K := K) (fun i => (s'.2[i]?).bind fun j => if (!decide (j = k0)) = true then some (.int j) else none) hD (.of (x12 _ _ sl)) (by rw [List.length_map]; omega) ?_ ?_⟩
    · intro i v H' Nx hi y1 tn
      rw [List.getElem?_map] at hi
      obtain ⟨j, hj, rfl⟩ := Option.map_eq_some_iff.mp hi
      have yy := y1.trans off_le
      refine ⟨rfl, _, rfl, _, rfl, ys, _, _, _, rfl, rfl, sy1.ext yy, rfl, rfl, !decide (j = k0), congrArg V.bl (by rw [show decide (V.int j = V.int k0) = decide (j = k0) from decide_eq_decide.mpr ⟨fun z => V.int.inj z, fun z => by rw [z]⟩]), ?_⟩
      cases h : decide (j = k0) with
      | true => exact iteF (tn.drop0 (by rw [hj]; exact if_neg (by rw [h]; exact Bool.false_ne_true)))
      | false => exact iteT ⟨_, rfl, tn.keep0 (d := .int j) (by rw [hj]; exact if_pos (by rw [h]; rfl)) (.int _)⟩
    · intro H2 md
      rw [List.length_map, fm_bind, fm_if] at md
      obtain ⟨acc, y2, hacc, da⟩ := id md
      obtain rfl := da.intsI
      have x3 := x12.trans (y2.trans off_le)
      have lf := List.length_filter_le (fun j => !decide (j = k0)) s'.2
      refine ⟨fun σ' H' => ∃ U, σ' = [some (.ref tt), some (.ref ts), some (.ref ys), some (.ref d), some (.ref a), some (.ref b), some (.ref U), none] ∧ Ext H H' ∧ H' U = some (.lst ((putU w k0 s'.2).map V.int)), ?_, ?_⟩
      · refine ⟨_, rfl, ys, _, _, _, rfl, rfl, sy.ext x3, rfl, rfl, _, rfl, ?_⟩
        show if decide (V.str (uw w) = V.str "use") = true then _ else _
        rw [uw_use]
        cases w with
        | true =>
          refine iteT ⟨_, rfl, _, rfl, ys, _, _, _, rfl, rfl, sy.ext x3, rfl, by show 1 ≤ sizeLine; omega, fun l2 hl2 => ?_⟩
          have y3 := Ext.upd hl2 (o := .lst [.int k0])
          refine ⟨D, l2, _, _, rfl, rfl, y3 _ _ hacc, upd_same, by rw [List.length_map]; show _ + 1 ≤ sizeLine; omega, fun U hU => ⟨U, rfl, x3.trans (y3.trans (Ext.upd hU)), ?_⟩⟩
          rw [upd_same]
          show some (HO.lst _) = some (HO.lst ((s'.2.filter (fun j => !decide (j = k0)) ++ [k0]).map V.int))
          rw [List.map_append]
          rfl
        | false => exact iteF ⟨D, rfl, x3, hacc⟩
      · rintro σ' H3 ⟨U, rfl, x4, hU⟩
        have l4 := sok.l4
        have lk : (sk s.ss).length = s.ss.length := List.length_map _
        refine ⟨_, rfl, d, _, rfl, x4 _ _ hd, fun H4 p ks x5 fp ft np hp pr => ?_⟩
        have x5 : Ext H3 H4 := fun a u e => x5 a u e
        have x45 := x4.trans x5
        have lks : ks.length = s.ss.length := by
          have := pr.length
          rw [dg_len, lk] at this
          exact this
        refine ⟨_, rfl, ys, _, _, _, rfl, rfl, sy.ext x45, rfl, _, rfl, by show 2 ≤ sizeLine; omega, fun m2 hm2 => ⟨by show 1 ≤ sizeLine; omega, fun l3 hl3 => ?_⟩⟩
        have y1 := Ext.upd hm2 (o := .tup [.str nm, .ref U])
        have y2 := Ext.upd hl3 (o := .lst [.ref m2])
        have y12 := y1.trans y2
        refine ⟨p, l3, _, _, rfl, rfl, y12 _ _ hp, upd_same, by rw [List.length_map]; show ks.length + 1 ≤ sizeLine; omega, fun r hr => ?_⟩
        have y3 := Ext.upd hr (o := .lst (ks.map V.ref ++ [.ref m2]))
        have y13 := y12.trans y3
        refine ⟨r, ks ++ [m2], dG (sk s.ss) F ++ [(Sum.inr nm, .ref U)], rfl, .of (by rw [upd_same, List.map_append]; rfl), Paired.snoc ?_ ?_, fun dd hdd => ?_⟩
        · exact paired_imp (fun t kv z => .of (y13 _ _ z)) pr
        · exact .of ((y2.trans y3) _ _ upd_same)
        · have nk : (sk s.ss).Nodup := by
            have e : sk s.ss = (s.ss.map Prod.fst).map Sum.inr := by
              unfold sk
              rw [List.map_map]
              rfl
            rw [e]
            exact List.Pairwise.map _ (fun a b h z => h (Sum.inr.inj z)) sok.nd
          have em : mergeK [] (dG (sk s.ss) F ++ [(Sum.inr nm, .ref U)]) = dG (sk s.ss) (fun j => if j = Sum.inr nm then .ref U else F j) := by
            rw [merge_snoc, show mergeK [] (dG (sk s.ss) F) = dG (sk s.ss) F from merge_dG (sk s.ss) [] nk, dg_set _ hm]
          rw [em]
          have y4 := Ext.upd hdd (o := .dK (dG (sk s.ss) (fun j => if j = Sum.inr nm then .ref U else F j)))
          refine ⟨_, rfl, _, rfl, by show 3 ≤ sizeLine; omega, fun t5 h5 => ⟨by show 2 ≤ sizeLine; omega, fun t6 h6 => ?_⟩⟩
          have y5 := Ext.upd h5 (o := .tup [.ref dd, .ref a, .ref b])
          have y6 := Ext.upd h6 (o := .tup [.str "done", .ref t5])
          have y16 := y13.trans (y4.trans (y5.trans y6))
          have xx := x45.trans y16
          refine q t6 (.ref t5) _ xx (.of upd_same) ⟨t5, dd, a, b, rfl, .of (y6 _ _ upd_same), ⟨fun j => if j = Sum.inr nm then .ref U else F j, ?_, fun t ht => ?_⟩, sa.ext xx, sb.ext xx⟩
          · show _ = some (HO.dK (dG (sk (setU w nm k0 s.ss)) _))
            rw [sk_setU]
            exact (y5.trans y6) _ _ upd_same
          · obtain ⟨t0, ht0, rfl⟩ := List.mem_map.mp ht
            by_cases c : t0.1 = nm
            · rw [if_pos c]
              refine ⟨U, if_pos rfl, y16 _ _ (x5 _ _ ?_)⟩
              have e0 : s' = t0 := nodup_fst sok.nd hs' ht0 (en.trans c.symm)
              rw [← e0]
              exact hU
            · rw [if_neg c]
              obtain ⟨b', eb, hb⟩ := hF t0 ht0
              have ne : ¬ (Sum.inr t0.1 : Key) = Sum.inr nm := fun z => c (Sum.inr.inj z)
              exact ⟨b', by simp only [if_neg ne]; exact eb, xx _ _ hb⟩
def spLBehind (K : PySem.W.Frag) : Sp := sp4 fun x y z u H Q => ∃ n ps o gs s, ∃ (es : List Ed) (l : List Nat) (b : Addr) (m c : Nat), Dp K H x (toldD n ps o gs) ∧ StL K H y s ∧ Dp K H z (.list (es.map edD)) ∧ u = .ref b ∧ (SqL K H b (nV l) ∨ SqT K H b (nV l)) ∧
  (∀ e ∈ es, OkL n m (s.ss.map Prod.fst) e) ∧ (∀ a ∈ l, a < es.length) ∧ StOk m c s ∧ c + l.length ≤ 100 ∧ m = (gatesW ps o (exits n gs)).length ∧ m ≤ 200 ∧ 0 ≤ n ∧ n ≤ 4 ∧ ps.length ≤ 80 ∧ (∀ g ∈ gs, InR n g) ∧
  ∀ H', Ext H H' → Q (oV (totL ⟨n, ps, o, exits n gs⟩ (runE es l s).ss (runE es l s).sv (runE es l s).bk)) H'
theorem run_snoc (es : List Ed) (l : List Nat) (i : Nat) (a : Nat) (s : St) (h : l[i]? = some a) : runE es (l.take (i + 1)) s = stepE (eAt es a) (runE es (l.take i) s) := by
  unfold runE
  rw [List.take_add_one, h, List.foldl_append]
  rfl
theorem StOk.mono {m c d : Nat} {s : St} (h : StOk m c s) (e : c ≤ d) : StOk m d s := ⟨h.nd, h.l4, fun t ht => Nat.le_trans (h.lu t ht) e, h.ls, h.lb⟩
theorem run_ok {m c : Nat} (es : List Ed) : ∀ (l : List Nat) (s : St), StOk m c s → StOk m (c + l.length) (runE es l s)
  | [], s, h => h
  | a :: l, s, h => (run_ok es l _ (h.step (eAt es a))).mono (by rw [List.length_cons]; omega)
theorem sc_law_behind : FnScope ["_law_told", "_law_state", "_law_menu_here", "_law_chosen", "_law_at"] ["_law_told", "_law_state", "_law_menu_here", "_law_chosen"] (defScope s_law_behind) := ⟨rfl, rfl, rfl, by decide +kernel, rfl, by decide +kernel, by decide +kernel⟩
theorem c_law_behind (T : Txt K mg) : C8.Cal P w K mg base 7 "_law_behind" (spLBehind K) [] := by
  obtain ⟨fd, F⟩ := T.f_law_behind
  refine calN F T.g_law_behind sc_law_behind (F.bindsN fun _ _ _ _ _ _ us hl => match us, hl with | [_, _, _, _], _ => rfl) len4 (fun cdv A outer s H vs Q E hr h => ?_)
  refine ⟨_, (pss_cons (ps_for PassesOwn.never rfl (pi_any (own_it T) (hr.mono (by decide)) (pv 3)) (pg_name (i := 4) sc_law_behind.nd rfl (by first | exact Or.inl rfl | exact Or.inr rfl))
      (pss_one (ps_set (i := 1) sc_law_behind.nd rfl (by first | exact Or.inl rfl | exact Or.inr rfl) (pe_ix ix_tup (C8.pe_c (c_law_edited T) hr (by decide) rfl (pa_cons (pv 0) (pa_cons (pv 1) (pa_cons (pe_ix ix_list (pv 2) (pv 4) (fun _ _ => rfl)) pa_nil)))) pe_int (fun _ _ => rfl)))))
      (pss_one (ps_ret (C8.pe_c (c_law_total T) hr (by decide) rfl (pa_cons (pv 0) (pa_cons (pe_ix ix_tup (pv 1) pe_int (fun _ _ => rfl)) (pa_cons (pe_tup (pa_cons (pe_ix ix_tup (pv 1) pe_int (fun _ _ => rfl)) (pa_cons (pe_ix ix_tup (pv 1) pe_int (fun _ _ => rfl)) pa_nil))) pa_nil))))))), ?_⟩
  -- slots: 0:_law_told 1:_law_state 2:_law_menu_here 3:_law_chosen 4:_law_at
  obtain ⟨x, y, z, u, rfl, n, ps, o, gs, s, es, l, b, m, c, dp, hst, dm, rfl, sb, oe, la, sok, cl, em, m200, n0, n4, lp, gi, q⟩ := h
  have lin : 2000 < sizeLine := by rw [sizeLine_eq]; omega
  obtain ⟨mm, ms, rfl, sm, am⟩ := id dm.lstI
  obtain ⟨J, hw⟩ : ∃ J, Wk (cLot K) "places" K H b (nV l) J := sb.elim (fun z => ⟨_, .l z⟩) fun z => ⟨_, .t z⟩
  refine ⟨_, rfl, b, _, J, rfl, hw, for_any hw (fun i σ H' => ∃ ys v4, σ = [some x, some ys, some (.ref mm), some (.ref b), v4] ∧ Ext H H' ∧ StL K H' ys (runE es (l.take i) s)) ⟨_, _, rfl, Ext.rfl', hst⟩ (fun i σ H' z => by obtain ⟨_, _, _, x, _⟩ := z; exact x) ?_ ?_⟩
  · rintro i v σ H1 hi ⟨ys, v4, rfl, x1, st1⟩
    unfold nV at hi
    rw [List.getElem?_map] at hi
    obtain ⟨a, ha, rfl⟩ := Option.map_eq_some_iff.mp hi
    have il := (List.getElem?_eq_some_iff.mp ha).1
    have al := la a (List.mem_of_getElem? ha)
    obtain ⟨v, hv, dv⟩ := eAt_get am al
    have me : eAt es a ∈ es := List.mem_of_getElem? (eAt_at al)
    refine ⟨_, rfl, _, rfl, _, rfl, _, rfl, mm, ms, _, _, rfl, rfl, sm.ext x1, atI_nat hv, _, _, _, rfl, n, ps, o, gs, _, eAt es a, m, dp.ext x1, st1, dv.ext x1, ?_, (run_ok es (l.take i) s sok).mono (by rw [List.length_take]; omega), m200, fun v t H2 x2 sv st2 => ?_⟩
    · rw [run_names]
      exact oe _ me
    · refine ⟨v, _, _, _, rfl, rfl, sv, rfl, _, _, rfl, x1.trans x2, ?_⟩
      rw [run_snoc es l i a s ha]
      exact st2
  · rintro σ H1 ⟨ys, v4, rfl, x1, st1⟩
    rw [nV_len, List.take_length] at st1
    obtain ⟨t, d, a, b', rfl, ht, hd, ha, hb⟩ := id st1
    have sk := run_ok es l s sok
    refine ⟨_, rfl, _, rfl, t, _, _, _, rfl, rfl, ht, rfl, _, rfl, t, _, _, _, rfl, rfl, ht, rfl, _, rfl, t, _, _, _, rfl, rfl, ht, rfl, by show 2 ≤ sizeLine; omega, fun w hw => ?_⟩
    have x2 := Ext.upd hw (o := .tup [.ref a, .ref b'])
    exact ⟨_, _, _, rfl, n, ps, o, gs, d, _, _, _, dp.ext (x1.trans x2), rfl, hd.ext x2, .tup (.of upd_same) (.cons (.lst (ha.ext x2) (.os _)) (.cons (.lst (hb.ext x2) (.os _)) .nil)), n0, n4, lp, gi, by rw [sk.ls, em], by rw [sk.lb, em], fun H3 x3 => q H3 (x1.trans (x2.trans x3))⟩
/-- the law's total behind a set -/
def tfL (W : WD) (es : List Ed) (s : St) (l : List Nat) : Option Int := totL W (runE es l s).ss (runE es l s).sv (runE es l s).bk
def spDue (K : PySem.W.Frag) : Sp := sp4 fun x y z u H Q => ∃ n ps o gs s, ∃ (es : List Ed) (bound : Int) (m c : Nat), Dp K H x (toldD n ps o gs) ∧ StL K H y s ∧ Dp K H z (.list (es.map edD)) ∧ u = .int bound ∧ es.length ≤ 6 ∧
  (∀ e ∈ es, OkL n m (s.ss.map Prod.fst) e) ∧ StOk m c s ∧ c ≤ 80 ∧ m = (gatesW ps o (exits n gs)).length ∧ m ≤ 200 ∧ 0 ≤ n ∧ n ≤ 4 ∧ ps.length ≤ 80 ∧ (∀ g ∈ gs, InR n g) ∧
  ∀ t H', Ext H H' → Dp K H' (.ref t) (.tuple ((mendF es (tfL ⟨n, ps, o, exits n gs⟩ es s) bound).map nD)) → Q (.ref t) H'
theorem sc_law_due : FnScope ["_law_told", "_law_state", "_law_menu_here", "_law_bound", "_law_found", "_law_chosen", "_law_total_here"] ["_law_told", "_law_state", "_law_menu_here", "_law_bound"] (defScope s_law_due) := ⟨rfl, rfl, rfl, by decide +kernel, rfl, by decide +kernel, by decide +kernel⟩
theorem c_law_due (T : Txt K mg) : C8.Cal P w K mg base 8 "_law_due" (spDue K) [] := by
  obtain ⟨fd, F⟩ := T.f_law_due
  refine calN F T.g_law_due sc_law_due (F.bindsN fun _ _ _ _ _ _ us hl => match us, hl with | [_, _, _, _], _ => rfl) len4 (fun cdv A outer s H vs Q E hr h => ?_)
  refine ⟨_, (pss_cons (ps_set (i := 4) sc_law_due.nd rfl (by first | exact Or.inl rfl | exact Or.inr rfl) (pe_lst pa_nil))
      (pss_cons (ps_for PassesOwn.never rfl (pi_list (C8.pe_c (c_law_sets T) hr (by decide) rfl (pa_cons (pe_callB call_len (by rfl) T.b_len (by decide +kernel) (pa_cons (pv 2) pa_nil)) pa_nil))) (pg_name (i := 5) sc_law_due.nd rfl (by first | exact Or.inl rfl | exact Or.inr rfl))
      (pss_cons (ps_if (PW.pt (pw_or (pt_val (C8.pe_c (c_law_clashes T) hr (by decide) rfl (pa_cons (pv 2) (pa_cons (pv 5) pa_nil)))) (pw_or1 (pt_val (C8.pe_c (c_law_holds T) hr (by decide) rfl (pa_cons (pv 4) (pa_cons (pv 5) pa_nil))))))) (pss_one ps_continue)
      pss_nil)
      (pss_cons (ps_set (i := 6) sc_law_due.nd rfl (by first | exact Or.inl rfl | exact Or.inr rfl) (C8.pe_c (c_law_behind T) hr (by decide) rfl (pa_cons (pv 0) (pa_cons (pv 1) (pa_cons (pv 2) (pa_cons (pv 5) pa_nil))))))
      (pss_one (ps_if (PW.pt (pw_and (pt_cmpR op_notN (pv 6) pe_non (nomark _)) (pw_and1 (pt_cmpR op_le (pv 6) (pv 3) (nomark _))))) (pss_one (ps_expr (pe_bm PySem.F.plainAttrs_list PySem.F.slot_list_append PySem.F.type_list_append mt_append (pv 4) (pa_cons (pv 5) pa_nil))))
      pss_nil)))))
      (pss_one (ps_ret (pe_callTy call_tuple_of (by rfl) T.b_tuple (by decide +kernel) (pa_cons (pv 4) pa_nil)))))), ?_⟩
  -- slots: 0:_law_told 1:_law_state 2:_law_menu_here 3:_law_bound 4:_law_found 5:_law_chosen 6:_law_total_here
  obtain ⟨x, y, z, u, rfl, n, ps, o, gs, s, es, bound, m, c, dp, hst, dm, rfl, l6e, oe, sok, cl, em, m200, n0, n4, lp, gi, q⟩ := h
  have lin : 2000 < sizeLine := by rw [sizeLine_eq]; omega
  obtain ⟨mm, ms, rfl, sm, am⟩ := id dm.lstI
  have lms : ms.length = es.length := by rw [am.len, List.length_map]
  refine ⟨Nat.zero_le _, fun F hF => ?_⟩
  have x0 := Ext.upd hF (o := .lst [])
  refine ⟨_, rfl, _, _, rfl, .inl ⟨_, sm.ext x0, rfl⟩, _, rfl, es.length, congrArg V.int (by rw [lms]), l6e, fun S H3 nS x3 dS => ?_⟩
  obtain ⟨_, zs, e1, sz, az⟩ := dS.lstI
  cases e1
  have nF : S ≠ F := fun z => by
    rw [z, upd_same] at nS
    cases nS
  have lzs : zs.length = (setsL es.length).length := by rw [az.len, List.length_map]
  have mF3 : Made K H F [] H3 := by
    refine ⟨[], ?_, x3 _ _ upd_same, .nil⟩
    have := Ext.off (D := F) x3
    rw [off_put, off_none hF] at this
    exact this
  have se := sets_eq es.length l6e
  have hF3 := x3 _ _ upd_same
  refine ⟨S, rfl, ⟨_, sz⟩, for_list (K := K) (xs := zs) (fun j σ H' => (∃ v5 v6, σ = [some x, some y, some (.ref mm), some (.int bound), some (.ref F), v5, v6]) ∧ But F H3 H' ∧ Made K H F ((((setsL es.length).take j).foldl (stepM es (tfL ⟨n, ps, o, exits n gs⟩ es s) bound) []).map nD) H') ⟨⟨_, _, rfl⟩, fun _ _ _ h => h, mF3⟩ (fun j σ H' _ z => z.2.1.seq nF sz) ?_ ?_⟩
  · rintro j v σ H' hj ⟨⟨v5, v6, rfl⟩, bF, mj⟩
    obtain ⟨d, hd, dv⟩ := az.get hj
    rw [List.getElem?_map] at hd
    obtain ⟨l, hl, rfl⟩ := Option.map_eq_some_iff.mp hd
    have tu : Tu H3 H' := tu_butL bF ⟨_, hF3⟩
    have dl : Dp K H' v (nD l) := Dp.tu tu _ _ (nl_nD l) dv
    have ml : l ∈ setsF es.length (es.length + 1) := by
      rw [← se]
      exact List.mem_of_getElem? hl
    have l6 := sets_6 _ l6e l ml
    have llt := sets_lt _ l6e l ml
    have asc := sets_asc _ l6e l ml
    have jl := (List.getElem?_eq_some_iff.mp hl).1
    have ls64 := sets_len _ l6e
    rw [← se] at ls64
    have xj := mj.ext1
    have ej : (setsL es.length).take (j + 1) = (setsL es.length).take j ++ [l] := by
      rw [List.take_add_one, hl]
      rfl
    rw [ej, List.foldl_append]
    have hmem : ∀ m ∈ ((setsL es.length).take j).foldl (stepM es (tfL ⟨n, ps, o, exits n gs⟩ es s) bound) [], m.length ≤ 6 := by
      refine stepM_mem es _ bound (fun m => m.length ≤ 6) _ _ (by simp) fun m hm => ?_
      have hm := List.mem_of_mem_take hm
      rw [se] at hm
      exact sets_6 _ l6e m hm
    have hlen : (((setsL es.length).take j).foldl (stepM es (tfL ⟨n, ps, o, exits n gs⟩ es s) bound) []).length ≤ 200 := by
      have h1 := stepM_len es (tfL ⟨n, ps, o, exits n gs⟩ es s) bound ((setsL es.length).take j) []
      rw [List.length_take, List.length_nil] at h1
      omega
    generalize ((setsL es.length).take j).foldl (stepM es (tfL ⟨n, ps, o, exits n gs⟩ es s) bound) [] = fd at mj hmem hlen ⊢
    obtain ⟨pt, rfl, st⟩ := nD_sq dl
    refine ⟨_, rfl, _, rfl, _, _, rfl, es, l, dm.ext xj, dl, llt, l6, _, rfl, ?_⟩
    rw [clash_counts es l asc]
    rw [show [l].foldl (stepM es (tfL ⟨n, ps, o, exits n gs⟩ es s) bound) fd = stepM es (tfL ⟨n, ps, o, exits n gs⟩ es s) bound fd l from rfl]
    cases hc : countsF es l with
    | false =>
      refine iteT (iteT ⟨⟨_, _, rfl⟩, bF, ?_⟩)
      have e : stepM es (tfL ⟨n, ps, o, exits n gs⟩ es s) bound fd l = fd := by
        unfold stepM
        rw [hc]
        rfl
      rw [e]
      exact mj
    | true =>
      refine iteF ⟨_, rfl, _, rfl, _, _, rfl, fd, l, mj.dp, dl, l6, by omega, hmem, fun H5 x56 => ⟨_, rfl, ?_⟩⟩
      have mF5 : Made K H F (fd.map nD) H5 := by
        obtain ⟨acc, y1, y2, y3⟩ := mj
        exact ⟨acc, y1.trans (Ext.off x56), x56 _ _ y2, y3.ext (Ext.off x56)⟩
      have bF5 : But F H3 H5 := bF.trans (.of x56)
      cases hh : holdsF fd l with
      | true =>
        refine iteT ⟨⟨_, _, rfl⟩, bF5, ?_⟩
        have e : stepM es (tfL ⟨n, ps, o, exits n gs⟩ es s) bound fd l = fd := by
          unfold stepM
          rw [hc, hh]
          rfl
        rw [e]
        exact mF5
      | false =>
        refine iteF ?_
        have x25 := xj.trans x56
        refine ⟨_, rfl, _, rfl, _, rfl, _, rfl, _, _, _, _, rfl, n, ps, o, gs, s, es, l, pt, m, c, dp.ext x25, hst.ext x25, dm.ext x25, rfl, .inr (st.ext x56), oe, llt, sok, by omega, em, m200, n0, n4, lp, gi, fun H7 x7 => ?_⟩
        have x567 := x56.trans x7
        have mF7 : Made K H F (fd.map nD) H7 := by
          obtain ⟨acc, y1, y2, y3⟩ := mj
          exact ⟨acc, y1.trans (Ext.off x567), x567 _ _ y2, y3.ext (Ext.off x567)⟩
        have bF7 : But F H3 H7 := bF.trans (.of x567)
        have e0 : stepM es (tfL ⟨n, ps, o, exits n gs⟩ es s) bound fd l = match tfL ⟨n, ps, o, exits n gs⟩ es s l with
          | some c => if c ≤ bound then fd ++ [l] else fd
          | none => fd := by
          unfold stepM
          rw [hc, hh]
          rfl
        obtain ⟨acc, y1, hacc7, y3⟩ := id mF7
        rw [show totL ⟨n, ps, o, exits n gs⟩ (runE es l s).ss (runE es l s).sv (runE es l s).bk = tfL ⟨n, ps, o, exits n gs⟩ es s l from rfl]
        cases hct : tfL ⟨n, ps, o, exits n gs⟩ es s l with
        | none =>
          rw [hct] at e0
          rw [e0]
          exact ⟨_, rfl, rfl, false, rfl, iteF ⟨⟨_, _, rfl⟩, bF7, mF7⟩⟩
        | some c =>
          refine ⟨_, rfl, rfl, true, rfl, iteT ⟨_, rfl, _, rfl, c, bound, rfl, rfl, _, rfl, ?_⟩⟩
          rw [hct] at e0
          by_cases hcb : c ≤ bound
          · rw [decide_eq_true hcb]
            rw [show stepM es (tfL ⟨n, ps, o, exits n gs⟩ es s) bound fd l = fd ++ [l] from e0.trans (if_pos hcb)]
            have lacc : acc.length = fd.length := by rw [y3.len, List.length_map]
            refine iteT ⟨_, rfl, .inl ⟨rfl, _, .of hacc7⟩, _, rfl, F, acc, _, rfl, rfl, hacc7, by omega, ⟨_, _, rfl⟩, bF7.trans .put, acc ++ [.ref pt], ?_, upd_same, ?_⟩
            · rw [off_put]
              exact y1
            · rw [off_put, List.map_append]
              exact y3.snoc (Dp.tu (tu_off0 hacc7) _ _ (nl_nD l) (dl.ext x567))
          · rw [decide_eq_false hcb]
            rw [show stepM es (tfL ⟨n, ps, o, exits n gs⟩ es s) bound fd l = fd from e0.trans (if_neg hcb)]
            exact iteF ⟨⟨_, _, rfl⟩, bF7, mF7⟩
  · rintro σ H' ⟨⟨v5, v6, rfl⟩, bF, mj⟩
    rw [lzs, List.take_length, se] at mj
    obtain ⟨acc, x4, hacc, dd⟩ := id mj
    refine ⟨_, rfl, F, acc, rfl, .inl ⟨.of hacc, fun t ht => ?_⟩⟩
    exact q t _ ((x4.trans off_le).trans (Ext.upd ht)) (.tup (.of upd_same) ((dd.ext off_le).ext (Ext.upd ht)))
end
end Sv
namespace Sv
open PySem PySem.Spec PyProof.Rows L2
/-! ### edits and menus drawn -/
theorem nb_edD (e : Ed) : nb (edD e) = true := by
  cases e with
  | «at» b n k => cases b <;> rfl
  | price g b o => cases b <;> cases o <;> rfl
theorem nl_edD (e : Ed) : nl (edD e) = true := by
  cases e with
  | «at» b n k => cases b <;> rfl
  | price g b o => cases b <;> cases o <;> rfl
theorem nls_edD (es : List Ed) : nlAll (es.map edD) = true := by
  induction es with
  | nil => rfl
  | cons e es ih =>
    rw [List.map_cons, nlAll, ih, nl_edD]
    rfl
theorem any_eds (e : Ed) (es : List Ed) : ((es.map edD).any fun z => PyData.eqv z (edD e)) = decide (e ∈ es) := by
  rw [Bool.eq_iff_iff, decide_eq_true_iff, List.any_eq_true]
  constructor
  · rintro ⟨d, hd, z⟩
    obtain ⟨f, hf, rfl⟩ := List.mem_map.mp hd
    rw [← edD_inj ((eqv_iff _ _ (nb_edD f) (nb_edD e)).mp z)]
    exact hf
  · intro h
    exact ⟨edD e, List.mem_map.mpr ⟨e, h, rfl⟩, (eqv_iff _ _ (nb_edD e) (nb_edD e)).mpr rfl⟩
theorem shp_eds (es : List Ed) (h : ∀ e ∈ es, OkS e) : shp 2 (.list (es.map edD)) := .lst fun d hd => by
  obtain ⟨e, he, rfl⟩ := List.mem_map.mp hd
  exact shpE e (h e he)
theorem gates_pos (ps : Gt) (o : Int) (ex : List Int) : 0 < (gatesW ps o ex).length := by
  rw [gatesW_len]
  omega
def spEdit (K : PySem.W.Frag) : Sp := sp4 fun x y z u H Q => ∃ p k H0 n ps o gs b, ∃ nms : List PySem.Str, x = .ref p ∧ PoolAt K p H0 k H ∧ 0 ≤ k ∧ k < 9000 ∧ Dp K (Off p H) y (toldD n ps o gs) ∧ z = .ref b ∧ SqL K (Off p H) b (nms.map V.str) ∧ nms ≠ [] ∧ nms.length ≤ 4 ∧ u = .bl false ∧ 1 ≤ n ∧ n ≤ 4 ∧ ps.length ≤ 11 ∧ (∀ g ∈ gs, InR n g) ∧
  ∀ v e H', But p H H' → PoolAt K p H0 (k + 20) H' → Dp K H' v (edD e) → OkL n (gatesW ps o (exits n gs)).length nms e → Q v H'
theorem okS_of {n : Int} {m : Nat} {nms : List PySem.Str} {e : Ed} (h : OkL n m nms e) (k : ∀ x ∈ nms, PyData.strOk x = true) : OkS e := fun b x i z => k x (h.at_ b x i z).1
section
variable {P : Program} {w : World} {K : PySem.W.Frag} {mg : PySem.Str → Option Value} {base : Heap}
theorem sc_law_edit : FnScope ["_law_pool_here", "_law_told", "_law_names", "_law_wild", "_law_count", "_law_gates_here", "_law_way", "_law_edit_here", "_law_far", "_law_wrong"] ["_law_pool_here", "_law_told", "_law_names", "_law_wild"] (defScope s_law_edit) := ⟨rfl, rfl, rfl, by decide +kernel, rfl, by decide +kernel, by decide +kernel⟩
theorem c_law_edit (T : Txt K mg) : C8.Cal P w K mg base 3 "_law_edit" (spEdit K) [] := by
  obtain ⟨fd, F⟩ := T.f_law_edit
  refine calN F T.g_law_edit sc_law_edit (F.bindsN fun _ _ _ _ _ _ us hl => match us, hl with | [_, _, _, _], _ => rfl) len4 (fun cdv A outer s H vs Q E hr h => ?_)
  refine ⟨_, (pss_cons (ps_set (i := 4) sc_law_edit.nd rfl (by first | exact Or.inl rfl | exact Or.inr rfl) (pe_ix ix_tup (pv 1) pe_int (fun _ _ => rfl)))
      (pss_cons (ps_set (i := 5) sc_law_edit.nd rfl (by first | exact Or.inl rfl | exact Or.inr rfl) (pe_callB call_len (by rfl) T.b_len (by decide +kernel) (pa_cons (C8.pe_c (c_law_gates T) hr (by decide) rfl (pa_cons (pv 1) pa_nil)) pa_nil)))
      (pss_cons (ps_set (i := 6) sc_law_edit.nd rfl (by first | exact Or.inl rfl | exact Or.inr rfl) (C8.pe_c (c_law_draw T) hr (by decide) rfl (pa_cons (pv 0) (pa_cons pe_int pa_nil))))
      (pss_cons (ps_if (pt_cmpR op_lt (pv 6) pe_int (nomark _)) (pss_one (ps_set (i := 7) sc_law_edit.nd rfl (by first | exact Or.inl rfl | exact Or.inr rfl) (pe_tup (pa_cons (pe_ix ix_list (pe_lst (pa_cons pe_str (pa_cons pe_str pa_nil))) (pv 6) (fun _ _ => rfl)) (pa_cons (pe_ix ix_list (pv 2) (C8.pe_c (c_law_draw T) hr (by decide) rfl (pa_cons (pv 0) (pa_cons (pe_callB call_len (by rfl) T.b_len (by decide +kernel) (pa_cons (pv 2) pa_nil)) pa_nil))) (fun _ _ => rfl)) (pa_cons (C8.pe_c (c_law_draw T) hr (by decide) rfl (pa_cons (pv 0) (pa_cons (pv 4) pa_nil))) pa_nil))))))
      (pss_one (ps_set (i := 7) sc_law_edit.nd rfl (by first | exact Or.inl rfl | exact Or.inr rfl) (pe_tup (pa_cons pe_str (pa_cons (C8.pe_c (c_law_draw T) hr (by decide) rfl (pa_cons (pv 0) (pa_cons (pv 5) pa_nil))) (pa_cons (pe_ix ix_list (pe_lst (pa_cons pe_str (pa_cons pe_str pa_nil))) (C8.pe_c (c_law_draw T) hr (by decide) rfl (pa_cons (pv 0) (pa_cons pe_int pa_nil))) (fun _ _ => rfl)) (pa_cons (C8.pe_c (c_law_price T) hr (by decide) rfl (pa_cons (pv 0) pa_nil)) pa_nil))))))))
      (pss_cons (ps_if (PW.pt (pw_or (pt_not (pt_val (pv 3))) (pw_or1 (pt_cmpR op_gt (C8.pe_c (c_law_draw T) hr (by decide) rfl (pa_cons (pv 0) (pa_cons pe_int pa_nil))) pe_int (nomark _))))) (pss_one (ps_ret (pv 7)))
      pss_nil)
      pss_never))))), ?_⟩
  -- slots: 0:_law_pool_here 1:_law_told 2:_law_names 3:_law_wild 4:_law_count 5:_law_gates_here 6:_law_way 7:_law_edit_here 8:_law_far 9:_law_wrong
  obtain ⟨x, y, z, u, rfl, p, k, H0, n, ps, o, gs, b, nms, rfl, pool, k0, k1, dp, rfl, sb, ne, ln, rfl, n0, n4, lp, gi, q⟩ := h
  have lin : 2000 < sizeLine := by rw [sizeLine_eq]; omega
  have dp' := dp.ext off_le
  obtain ⟨tt, xs, rfl, st, al⟩ := id dp'.tupI
  obtain ⟨v0, v1, v2, v3, rfl, d0, d1, d2, d3⟩ := DpAll.four al
  obtain rfl := d0.intI
  refine ⟨_, rfl, tt, _, _, _, rfl, rfl, st, rfl, ?_⟩
  refine ⟨_, rfl, _, rfl, n, ps, o, gs, dp', by omega, by omega, by omega, gi, fun R H1 x1 dR => ?_⟩
  have lG : (gatesW ps o (exits n gs)).length ≤ 20 := by
    rw [gatesW_len]
    have := exits_len n gs
    omega
  have gp := gates_pos ps o (exits n gs)
  generalize gatesW ps o (exits n gs) = G at dR lG gp q
  obtain ⟨_, ys, e1, sR, aR⟩ := dR.lstI
  cases e1
  have ly : ys.length = G.length := by rw [aR.len, List.length_map]
  have l1 := (Pl.of pool).ext x1
  refine ⟨_, _, rfl, .inl ⟨_, sR, rfl⟩, ?_⟩
  rw [ly]
  refine ⟨_, rfl, _, _, rfl, p, _, _, H0, rfl, rfl, by omega, by omega, by omega, l1.p, fun wy H2 w0 w1 B2 P2 => ?_⟩
  have l2 := l1.draw B2 P2
  refine ⟨_, rfl, wy, 2, rfl, rfl, decide (wy < 2), rfl, ?_⟩
  have ex0 : ∀ H', But p H H' → Ext (Off p H) H' := fun H' b => (ext_but b).trans off_le
  by_cases c : wy < 2
  · rw [decide_eq_true c]
    refine iteT ⟨by show 2 ≤ sizeLine; omega, fun L hL => ?_⟩
    have l3 := l2.ext (Ext.upd hL (o := .lst [.str "use", .str "free"]))
    have hx : atI [V.str "use", V.str "free"] wy = some (.str (uw (decide (wy = 0)))) := by
      rcases (show wy = 0 ∨ wy = 1 by omega) with rfl | rfl <;> rfl
    refine ⟨_, rfl, L, _, _, _, rfl, rfl, .of upd_same, hx, ?_⟩
    have hb3 := sb.ext (ex0 _ l3.b)
    refine ⟨_, rfl, _, rfl, _, rfl, _, _, rfl, .inl ⟨_, hb3, rfl⟩, _, _, rfl, p, _, _, H0, rfl, rfl, ?_, ?_, by omega, l3.p, fun e H4 e0 e1 B4 P4 => ?_⟩
    · rw [List.length_map]
      have := List.length_pos_iff.mpr ne
      omega
    · rw [List.length_map]
      omega
    · rw [List.length_map] at e1
      have l4 := l3.draw B4 P4
      obtain ⟨nm, hn⟩ : ∃ nm, nms[e.toNat]? = some nm := ⟨nms[e.toNat]'(by omega), List.getElem?_eq_getElem _⟩
      refine ⟨b, _, e, _, rfl, rfl, sb.ext (ex0 _ l4.b), at_str e0 hn, ?_⟩
      refine ⟨_, rfl, _, rfl, _, _, rfl, p, _, _, H0, rfl, rfl, by omega, by omega, by omega, l4.p, fun f H5 f0 f1 B5 P5 => ⟨by show 3 ≤ sizeLine; omega, fun m hm => ?_⟩⟩
      have l5 := l4.draw B5 P5
      have l6 := l5.ext (Ext.upd hm (o := .tup [.str (uw (decide (wy = 0))), .str nm, .int f]))
      refine ⟨_, rfl, false, rfl, iteT ⟨_, rfl, q (.ref m) (.at (decide (wy = 0)) nm f) _ l6.b (l6.p.mono (by omega)) ?_ ⟨fun b x k z => ?_, fun g b o z => by cases z⟩⟩⟩
      · exact .tup (.of upd_same) (.cons (.str _) (.cons (.str _) (.cons (.int _) .nil)))
      · cases z
        exact ⟨List.mem_of_getElem? hn, f0, f1⟩
  · rw [decide_eq_false c]
    refine iteF ⟨_, rfl, _, rfl, _, _, rfl, p, _, _, H0, rfl, rfl, by omega, by omega, by omega, l2.p, fun e H3 e0 e1 B3 P3 => ?_⟩
    have l3 := l2.draw B3 P3
    refine ⟨by show 2 ≤ sizeLine; omega, fun L hL => ?_⟩
    have l4 := l3.ext (Ext.upd hL (o := .lst [.str "save", .str "back"]))
    have wL := l3.nw hL
    refine ⟨_, rfl, _, _, rfl, p, _, _, H0, rfl, rfl, by omega, by omega, by omega, l4.p, fun f H5 f0 f1 B5 P5 => ?_⟩
    have l5 := l4.draw B5 P5
    have hx : atI [V.str "save", V.str "back"] f = some (.str (wd (decide (f = 0)))) := by
      rcases (show f = 0 ∨ f = 1 by omega) with rfl | rfl <;> rfl
    refine ⟨L, _, _, _, rfl, rfl, .of (B5 _ _ wL.ne upd_same), hx, ?_⟩
    refine ⟨_, rfl, _, rfl, p, _, H0, rfl, by omega, by omega, l5.p, fun o' H6 B6 P6 ok => ⟨by show 4 ≤ sizeLine; omega, fun m hm => ?_⟩⟩
    have l6 := l5.draw B6 P6
    have l7 := l6.ext (Ext.upd hm (o := .tup [.str "price", .int e, .str (wd (decide (f = 0))), oV o']))
    have ee : ((e.toNat : Nat) : Int) = e := by omega
    refine ⟨_, rfl, false, rfl, iteT ⟨_, rfl, q (.ref m) (.price e.toNat (decide (f = 0)) o') _ l7.b (l7.p.mono (by omega)) ?_ ⟨fun b x k z => (by cases z), fun g b o z => ?_⟩⟩⟩
    · refine .tup (.of upd_same) ?_
      show DpAll K _ _ [.str "price", .int ((e.toNat : Nat) : Int), .str (wd (decide (f = 0))), oI o']
      rw [ee]
      exact .cons (.str _) (.cons (.int _) (.cons (.str _) (.cons (dp_o _) .nil)))
    · cases z
      exact ⟨by omega, ok⟩
def spMenu (K : PySem.W.Frag) : Sp := sp3 fun x y z H Q => ∃ p k H0 n ps o gs b, ∃ nms : List PySem.Str, x = .ref p ∧ PoolAt K p H0 k H ∧ 0 ≤ k ∧ k < 5000 ∧ Dp K (Off p H) y (toldD n ps o gs) ∧ z = .ref b ∧ SqL K (Off p H) b (nms.map V.str) ∧ nms ≠ [] ∧ nms.length ≤ 4 ∧ (∀ m ∈ nms, PyData.strOk m = true) ∧ 1 ≤ n ∧ n ≤ 4 ∧ ps.length ≤ 11 ∧ (∀ g ∈ gs, InR n g) ∧
  ∀ D acc (es : List Ed) H', But p H H' → PoolAt K p H0 (k + 1000) H' → Nw p H0 H D → H' D = some (.lst acc) → DpAll K H' acc (es.map edD) → es.Nodup → (∀ e ∈ es, OkL n (gatesW ps o (exits n gs)).length nms e ∧ OkS e) → es.length ≤ 6 → Q (.ref D) H'
theorem sc_law_menu : FnScope ["_law_pool_here", "_law_told", "_law_names", "_law_menu_here", "_law_k", "_law_edit_here", "_law_one"] ["_law_pool_here", "_law_told", "_law_names"] (defScope s_law_menu) := ⟨rfl, rfl, rfl, by decide +kernel, rfl, by decide +kernel, by decide +kernel⟩
theorem c_law_menu (T : Txt K mg) : C8.Cal P w K mg base 4 "_law_menu" (spMenu K) [] := by
  obtain ⟨fd, F⟩ := T.f_law_menu
  refine calN F T.g_law_menu sc_law_menu (F.bindsN fun _ _ _ _ _ _ us hl => match us, hl with | [_, _, _], _ => rfl) len3 (fun cdv A outer s H vs Q E hr h => ?_)
  refine ⟨_, (pss_cons (ps_set (i := 3) sc_law_menu.nd rfl (by first | exact Or.inl rfl | exact Or.inr rfl) (pe_lst pa_nil))
      (pss_cons (ps_for PassesOwn.never rfl (pi_range1 (by rfl) T.b_range (pa_cons (C8.pe_c (c_law_draw T) hr (by decide) rfl (pa_cons (pv 0) (pa_cons pe_int pa_nil))) pa_nil)) (pg_name (i := 4) sc_law_menu.nd rfl (by first | exact Or.inl rfl | exact Or.inr rfl))
      (pss_cons (ps_set (i := 5) sc_law_menu.nd rfl (by first | exact Or.inl rfl | exact Or.inr rfl) (C8.pe_c (c_law_edit T) hr (by decide) rfl (pa_cons (pv 0) (pa_cons (pv 1) (pa_cons (pv 2) (pa_cons pe_bl pa_nil))))))
      (C8.pss_cut (ps_if (PW.pt (pw_and (pt_cmpR op_gt (pv 4) pe_int (nomark _)) (pw_and1 (pt_cmpR op_eq (C8.pe_c (c_law_draw T) hr (by decide) rfl (pa_cons (pv 0) (pa_cons pe_int pa_nil))) pe_int (nomark _))))) (pss_cons (ps_set (i := 6) sc_law_menu.nd rfl (by first | exact Or.inl rfl | exact Or.inr rfl) (pe_ix ix_list (pv 3) (C8.pe_c (c_law_draw T) hr (by decide) rfl (pa_cons (pv 0) (pa_cons (pe_callB call_len (by rfl) T.b_len (by decide +kernel) (pa_cons (pv 3) pa_nil)) pa_nil))) (fun _ _ => rfl)))
      (pss_cons (ps_set (i := 5) sc_law_menu.nd rfl (by first | exact Or.inl rfl | exact Or.inr rfl) (pe_op (op_catA) (pe_slice sl_tupA (pv 6) po_none (po_some pe_int)) (pe_tup (pa_cons (C8.pe_c (c_law_price T) hr (by decide) rfl (pa_cons (pv 0) pa_nil)) pa_nil))))
      (pss_one (ps_if (pt_cmpR op_ne (pe_ix ix_tup (pv 6) pe_int (fun _ _ => rfl)) pe_str (nomark _)) (pss_one (ps_set (i := 5) sc_law_menu.nd rfl (by first | exact Or.inl rfl | exact Or.inr rfl) (pe_tup (pa_cons (pe_dget (hu_of hr) (pe_disp (pps_cons pe_str pe_str (pps_cons pe_str pe_str pps_nil)) (by rfl) (by rfl) (fun z => by cases z) (by decide)) (pe_ix ix_tup (pv 6) pe_int (fun _ _ => rfl)) (fun _ _ => rfl)) (pa_cons (pe_ix ix_tup (pv 6) pe_int (fun _ _ => rfl)) (pa_cons (pe_ix ix_tup (pv 6) pe_int (fun _ _ => rfl)) pa_nil))))))
      pss_nil))))
      pss_nil)
      (pss_one (ps_if (pt_cmpR (op_notInD (hu65 hr)) (pv 5) (pv 3) (by rfl)) (pss_one (ps_expr (pe_bm PySem.F.plainAttrs_list PySem.F.slot_list_append PySem.F.type_list_append mt_append (pv 3) (pa_cons (pv 5) pa_nil))))
      pss_nil)))))
      (pss_one (ps_ret (pv 3))))), ?_⟩
  -- slots: 0:_law_pool_here 1:_law_told 2:_law_names 3:_law_menu_here 4:_law_k 5:_law_edit_here 6:_law_one
  obtain ⟨x, y, z, rfl, p, k, H0, n, ps, o, gs, b, nms, rfl, pool, k0, k1, dp, rfl, sb, ne, ln, so, n0, n4, lp, gi, q⟩ := h
  have lin : 2000 < sizeLine := by rw [sizeLine_eq]; omega
  refine ⟨Nat.zero_le _, fun D hD => ?_⟩
  have l1 := (Pl.of pool).ext (Ext.upd hD (o := .lst []))
  have wD := (Pl.of pool).nw hD
  refine ⟨_, rfl, _, _, rfl, p, _, _, H0, rfl, rfl, by omega, by omega, by omega, l1.p, fun c H2 c0 c1 B2 P2 => ⟨_, rfl, by omega, by omega, ?_⟩⟩
  have l2 := l1.draw B2 P2
  refine for_range (fun i σ H' => ∃ acc es v4 v5 v6, σ = [some (.ref p), some y, some (.ref b), some (.ref D), v4, v5, v6] ∧ Pl K p H0 H (k + 1 + 100 * i) H' ∧ H' D = some (.lst acc) ∧ DpAll K H' acc (es.map edD) ∧ es.Nodup ∧ (∀ e ∈ es, OkL n (gatesW ps o (exits n gs)).length nms e) ∧ es.length ≤ i ∧ (1 ≤ i → es ≠ []))
    ⟨[], [], _, _, _, rfl, l2.mono (by omega), B2 _ _ wD.ne upd_same, .nil, List.nodup_nil, by simp, Nat.le_refl _, fun z => by omega⟩ ?_ ?_
  · rintro i σ H3 hi ⟨acc, es, v4, v5, v6, rfl, l3, hD3, da, nd, oe, le, l0⟩
    refine ⟨_, rfl, _, rfl, _, rfl, _, _, _, _, rfl, p, _, H0, n, ps, o, gs, b, nms, rfl, l3.p, by omega, by omega, dp.ext (ext_but l3.b), rfl, sb.ext (ext_but l3.b), ne, ln, rfl, n0, n4, lp, gi, fun v e H4 B4 P4 dv ov => ?_⟩
    have l4 := l3.draw B4 P4
    have hD4 := B4 _ _ wD.ne hD3
    have da4 := DpAll.tu (tu_butL B4 l3.lst) _ _ (nls_edD es) da
    refine ⟨fun σ' H' => ∃ v e v6, σ' = [some (.ref p), some y, some (.ref b), some (.ref D), some (.int (0 + (i : Int))), some v, v6] ∧ Pl K p H0 H (k + 1 + 100 * i + 60) H' ∧ H' D = some (.lst acc) ∧ DpAll K H' acc (es.map edD) ∧ Dp K H' v (edD e) ∧ OkL n (gatesW ps o (exits n gs)).length nms e, ?_, ?_⟩
    · refine ⟨_, rfl, _, _, rfl, rfl, _, rfl, ?_⟩
      refine ite2 (fun hc => ?_) fun hc => iteF ⟨v, e, _, rfl, l4.mono (by omega), hD4, da4, dv, ov⟩
      have hc := of_decide_eq_true hc
      have i0 : 1 ≤ i := by omega
      refine ⟨_, rfl, _, _, rfl, p, _, _, H0, rfl, rfl, by omega, by omega, by omega, l4.p, fun f H5 f0 f1 B5 P5 => ⟨rfl, decide (f = 3), congrArg V.bl (decide_eq_decide.mpr (by simp)), ?_⟩⟩
      have l5 := l4.draw B5 P5
      have hD5 := B5 _ _ wD.ne hD4
      have da5 := DpAll.tu (tu_butL B5 l4.lst) _ _ (nls_edD es) da4
      have dv5 := Dp.tu (tu_butL B5 l4.lst) _ _ (nl_edD e) dv
      by_cases c3 : f = 3
      · rw [decide_eq_true c3]
        have lae : acc.length = es.length := by rw [da.len, List.length_map]
        have lp0 := List.length_pos_iff.mpr (l0 i0)
        refine iteT ⟨_, rfl, _, rfl, _, rfl, _, _, rfl, .inl ⟨_, .of hD5, rfl⟩, _, _, rfl, p, _, _, H0, rfl, rfl, by omega, by omega, by omega, l5.p, fun g H6 g0 g1 B6 P6 => ?_⟩
        have l6 := l5.draw B6 P6
        have hD6 := B6 _ _ wD.ne hD5
        have da6 := DpAll.tu (tu_butL B6 l5.lst) _ _ (nls_edD es) da5
        obtain ⟨e1, he1⟩ : ∃ e1, es[g.toNat]? = some e1 := ⟨es[g.toNat]'(by omega), List.getElem?_eq_getElem _⟩
        have o1 := oe e1 (List.mem_of_getElem? he1)
        obtain ⟨v1, hv1, dv1⟩ := da6.at (i := g.toNat) (d := edD e1) (by rw [List.getElem?_map, he1]; rfl)
        have ea : atI acc g = some v1 := by
          have := atI_nat hv1
          rwa [Int.toNat_of_nonneg g0] at this
        refine ⟨D, acc, g, _, rfl, rfl, .of hD6, ea, ?_⟩
        obtain ⟨a1, xs, rfl, s1, al1⟩ := dv1.tupI
        refine ⟨_, rfl, 3, rfl, slT_take s1 al1 3 fun z1 H7 x7 dz1 => ?_⟩
        have l7 := l6.ext x7
        obtain ⟨t1, ys, rfl, st, ayt⟩ := dz1.tupI
        have ly : ys.length = 3 := by
          rw [ayt.len, List.length_take]
          cases e1 <;> rfl
        refine ⟨_, rfl, _, rfl, p, _, H0, rfl, by omega, by omega, l7.p, fun o' H8 B8 P8 ok => ⟨by show 1 ≤ sizeLine; omega, fun m hm => ?_⟩⟩
        have l8 := l7.draw B8 P8
        have x9 := Ext.upd hm (o := .tup [oV o'])
        have l9 := l8.ext x9
        have tu79 : Tu H7 (upd H8 m (.tup [oV o'])) := Tu.trans (tu_butL B8 l7.lst) (tu_ext x9)
        have tu69 : Tu H6 (upd H8 m (.tup [oV o'])) := Tu.trans (tu_ext x7) tu79
        refine ⟨t1, m, ys, [oV o'], rfl, rfl, st.tu tu79, .of upd_same, by rw [ly]; show 3 + 1 ≤ sizeLine; omega, fun z => (by rw [z] at ly; cases ly), fun _ z => (by cases z), fun _ _ r hr => ?_⟩
        have x10 := Ext.upd hr (o := .tup (ys ++ [oV o']))
        have l10 := l9.ext x10
        have tu610 := Tu.trans tu69 (tu_ext x10)
        have hD10 := x10 _ _ (x9 _ _ (B8 _ _ wD.ne (x7 _ _ hD6)))
        have da10 := DpAll.tu tu610 _ _ (nls_edD es) da6
        have s10 := s1.tu tu610
        cases e1 with
        | price g1 b1 o1' =>
          obtain ⟨u0, u1, u2, u3, rfl, du0, du1, du2, du3⟩ := DpAll.four al1
          obtain rfl := du0.strI
          refine ⟨_, rfl, a1, _, _, _, rfl, rfl, s10, rfl, rfl, _, rfl, ?_⟩
          show if (!decide (V.str "price" = V.str "price")) = true then _ else _
          rw [p_p]
          refine iteF ⟨_, .price g1 b1 o', _, rfl, l10.mono (by omega), hD10, da10, .tup (.of upd_same) ?_, ⟨fun _ _ _ z => (by cases z), fun g b o z => ?_⟩⟩
          · exact (DpAll.tu (Tu.trans tu79 (tu_ext x10)) _ _ (by rfl) ayt).app (.cons (dp_o o') .nil)
          · cases z
            exact ⟨(o1.pr _ _ _ rfl).1, ok⟩
        | «at» b1 n1 k1' =>
          obtain ⟨u0, u1, u2, rfl, du0, du1, du2⟩ := DpAll.three al1
          obtain rfl := du0.strI
          obtain rfl := du1.strI
          obtain rfl := du2.intI
          refine ⟨_, rfl, a1, _, _, _, rfl, rfl, s10, rfl, rfl, _, rfl, ?_⟩
          show if (!decide (V.str (uw b1) = V.str "price")) = true then _ else _
          rw [uw_p]
          refine iteT fun dd hdd => ⟨upd_same, [(Sum.inr "use", .str "free"), (Sum.inr "free", .str "use")], rfl, by show 2 ≤ 15; decide, ?_⟩
          have e11 : mergeK [] [((Sum.inr "use" : Key), V.str "free"), (Sum.inr "free", V.str "use")] = [((Sum.inr "use" : Key), V.str "free"), ((Sum.inr "free" : Key), V.str "use")] := by rfl
          rw [e11]
          have nD : D ≠ dd := ne_of_none hD10 hdd
          have x11 : Ext (upd (upd H8 m (.tup [oV o'])) r (.tup (ys ++ [oV o']))) (upd (upd (upd (upd H8 m (.tup [oV o'])) r (.tup (ys ++ [oV o']))) dd (.dK [])) dd (.dK [((Sum.inr "use" : Key), V.str "free"), (Sum.inr "free", V.str "use")])) := (Ext.upd hdd).put hdd
          have hdd1 : (upd (upd (upd (upd H8 m (.tup [oV o'])) r (.tup (ys ++ [oV o']))) dd (.dK [])) dd (.dK [((Sum.inr "use" : Key), V.str "free"), (Sum.inr "free", V.str "use")])) dd = some (.dK [((Sum.inr "use" : Key), V.str "free"), (Sum.inr "free", V.str "use")]) := upd_same
          generalize upd (upd (upd (upd H8 m (.tup [oV o'])) r (.tup (ys ++ [oV o']))) dd (.dK [])) dd (.dK [((Sum.inr "use" : Key), V.str "free"), (Sum.inr "free", V.str "use")]) = H11 at x11 hdd1 ⊢
          have s11 := s10.ext x11
          have l11 := l10.ext x11
          have get : DGet H11 dd (V.str (uw b1)) (some (.str (uw (!b1)))) := .inl ⟨_, Sum.inr (uw b1), .inl hdd1, rfl, by cases b1 <;> decide +kernel⟩
          refine ⟨_, rfl, a1, _, _, _, rfl, rfl, s11, rfl, dd, _, rfl, get, _, rfl, a1, _, _, _, rfl, rfl, s11, rfl, _, rfl, a1, _, _, _, rfl, rfl, s11, rfl, by show 3 ≤ sizeLine; omega, fun r2 hr2 => ?_⟩
          have x12 := Ext.upd hr2 (o := .tup [.str (uw (!b1)), .str n1, .int k1'])
          have l12 := l11.ext x12
          refine ⟨_, .at (!b1) n1 k1', _, rfl, l12.mono (by omega), x12 _ _ (x11 _ _ hD10), (da10.ext x11).ext x12, .tup (.of upd_same) (.cons (.str _) (.cons (.str _) (.cons (.int _) .nil))), ⟨fun b x k z => ?_, fun _ _ _ z => (by cases z)⟩⟩
          cases z
          exact o1.at_ _ _ _ rfl
      · rw [decide_eq_false c3]
        exact iteF ⟨v, e, _, rfl, l5.mono (by omega), hD5, da5, dv5, ov⟩
    · rintro σ' H5 ⟨v, e, v6, rfl, l5, hD5, da5, dv5, ov⟩
      have os := okS_of ov so
      have oss : ∀ e ∈ es, OkS e := fun e he => okS_of (oe e he) so
      refine ⟨_, rfl, _, rfl, edD e, _, dv5, .lst (.of hD5) da5, (shpE e os).ed (by decide), (shp_eds es oss).ed (by decide), _, congrArg V.bl (by rw [any_eds]), ?_⟩
      have lae : acc.length = es.length := by rw [da5.len, List.length_map]
      by_cases c : e ∈ es
      · rw [decide_eq_true c]
        exact iteF ⟨acc, es, _, _, _, rfl, l5.mono (by omega), hD5, da5, nd, oe, by omega, fun _ z => by rw [z] at c; cases c⟩
      · rw [decide_eq_false c]
        refine iteT ⟨_, rfl, .inl ⟨rfl, _, .of hD5⟩, _, rfl, D, acc, v, rfl, rfl, hD5, by omega, acc ++ [v], es ++ [e], _, _, _, rfl, (l5.put wD).mono (by omega), upd_same, ?_, nodup_snoc nd c, fun f hf => ?_, by rw [List.length_append, List.length_singleton]; omega, fun _ => by simp⟩
        · rw [List.map_append]
          exact (DpAll.tu (tu_putL hD5) _ _ (nls_edD es) da5).snoc (Dp.tu (tu_putL hD5) _ _ (nl_edD e) dv5)
        · rcases List.mem_append.mp hf with hf | hf
          · exact oe f hf
          · rw [List.mem_singleton.mp hf]
            exact ov
  · rintro σ H3 ⟨acc, es, v4, v5, v6, rfl, l3, hD3, da, nd, oe, le, l0⟩
    exact ⟨_, rfl, q D acc es H3 l3.b (l3.p.mono (by omega)) wD hD3 da nd (fun e he => ⟨oe e he, okS_of (oe e he) so⟩) (by omega)⟩
end
end Sv
namespace Sv
open PySem PySem.Spec PyProof.Rows L2
/-! ### the known answers -/
def W0 : WD := ⟨2, [(0, 1)], 0, exits 2 [1]⟩
def esA : List Ed := [.price 0 true (some 0), .price 0 false (some 0), .price 1 true (some 0), .price 1 false (some 0), .price 2 true (some 0), .price 2 false (some 0)]
def esB : List Ed := [.at false "a" 0, .at false "a" 1, .at false "b" 0, .at false "b" 1, .at false "c" 0, .at false "c" 1]
def ones : List (Option Int) := [some 1, some 1, some 1]
def sA : St := ⟨[("a", [1]), ("b", [1])], ones, ones⟩
def sB : St := ⟨[("a", [0, 1]), ("b", [0, 1]), ("c", [0, 1])], ones, ones⟩
def foldM {β : Type} (es : List Ed) (tf : List Nat → Option Int) (bound : Int) : List (List Nat) → List (List Nat) → (List (List Nat) → β) → β
  | [], acc, k => k acc
  | x :: l, acc, k => outLL (stepM es tf bound acc x) fun acc' => foldM es tf bound l acc' k
theorem foldM_eq {β : Type} (es : List Ed) (tf : List Nat → Option Int) (bound : Int) : ∀ (l acc : List (List Nat)) (k : List (List Nat) → β), foldM es tf bound l acc k = k (l.foldl (stepM es tf bound) acc)
  | [], _, _ => rfl
  | x :: l, acc, k => (outLL_eq _ _).trans (foldM_eq es tf bound l _ k)
theorem mend_of {es : List Ed} {tf : List Nat → Option Int} {bound : Int} {r : List (List Nat)} (h : outLL (setsF es.length (es.length + 1)) (fun d => foldM es tf bound d [] fun q => decide (q = r)) = true) : mendF es tf bound = r := by
  rw [outLL_eq, foldM_eq] at h
  exact of_decide_eq_true h
theorem known1 : mendF esA (tfL W0 esA sA) 0 = [[0, 5], [2, 5]] := mend_of (by decide +kernel)
theorem known2 : mendF esB (tfL W0 esB sB) 0 = [[0, 1, 2, 3, 4, 5]] := mend_of (by decide +kernel)
theorem known3 : mendF esB (tfL W0 esB sB) 6 = [[]] := mend_of (by decide +kernel)
end Sv
namespace Sv
open PySem PySem.Spec PyProof.Rows L2
/-! ### _law_same -/
theorem nb_os (os : List (Option Int)) : nb (.tuple (os.map oI)) = true := by
  rw [nb]
  induction os with
  | nil => rfl
  | cons o os ih =>
    rw [List.map_cons, nbAll, ih]
    cases o <;> rfl
theorem nb_is (os : List Int) : nb (.tuple (os.map PyData.int)) = true := by
  rw [nb]
  induction os with
  | nil => rfl
  | cons o os ih =>
    rw [List.map_cons, nbAll, ih]
    rfl
theorem eqv_self {d : PyData} (h : nb d = true) : PyData.eqv d d = true := (eqv_iff d d h h).mpr rfl
theorem shp_os (os : List (Option Int)) : shp 1 (.tuple (os.map oI)) := .tup fun d hd => by
  obtain ⟨o, _, rfl⟩ := List.mem_map.mp hd
  exact .o o _
theorem shp_it (os : List Int) : shp 1 (.tuple (os.map PyData.int)) := .tup fun d hd => by
  obtain ⟨o, _, rfl⟩ := List.mem_map.mp hd
  exact .int _ _
theorem seq_len {a b : SL} (h : SEq a b) : a.length = b.length := by
  have h1 := nodup_le _ _ h.na fun n hn => (h.nm n).mp hn
  have h2 := nodup_le _ _ h.nb fun n hn => (h.nm n).mpr hn
  rw [List.length_map, List.length_map] at h1 h2
  omega
/-- the places of a seat, ascending -/
theorem asc_24 {l : List Int} {u : List Int} (a : Asc l) (m : ∀ k, k ∈ l ↔ k ∈ u) (r : ∀ k ∈ l, InR 24 k) : l = ((List.range 24).filter fun i : Nat => decide ((i : Int) ∈ u)).map Int.ofNat := by
  refine asc_ext a ?_ fun k => ?_
  · unfold Asc
    rw [List.pairwise_map]
    exact (List.Pairwise.filter _ List.pairwise_lt_range).imp fun h => Int.ofNat_lt.mpr h
  · rw [List.mem_map]
    constructor
    · intro hk
      obtain ⟨k0, k1⟩ := r k hk
      refine ⟨k.toNat, List.mem_filter.mpr ⟨List.mem_range.mpr (by omega), decide_eq_true ?_⟩, Int.toNat_of_nonneg k0⟩
      rw [Int.toNat_of_nonneg k0]
      exact (m k).mp hk
    · rintro ⟨i, hi, rfl⟩
      exact (m _).mpr (of_decide_eq_true (List.mem_filter.mp hi).2)
def spSame (K : PySem.W.Frag) : Sp := sp3 fun x y z H Q => ∃ W s ts, IsTask K H x W ts s.sv s.bk ∧ SEq ts s.ss ∧ SsOk W.n ts ∧ W.n ≤ 24 ∧ IsW K H y W ∧ StL K H z s ∧ (∀ H', Ext H H' → Q (.bl true) H')
section
variable {P : Program} {w : World} {K : PySem.W.Frag} {mg : PySem.Str → Option Value} {base : Heap}
theorem sc_law_same : FnScope ["_law_task", "_law_web_here", "_law_state", "_law_seats_here", "_law_saves", "_law_backs", "_law_name", "_law_place"] ["_law_task", "_law_web_here", "_law_state"] (defScope s_law_same) := ⟨rfl, rfl, rfl, by decide +kernel, rfl, by decide +kernel, by decide +kernel⟩
theorem c_law_same (T : Txt K mg) : C8.Cal P w K mg base 4 "_law_same" (spSame K) [] := by
  obtain ⟨fd, F⟩ := T.f_law_same
  refine calN F T.g_law_same sc_law_same (F.bindsN fun _ _ _ _ _ _ us hl => match us, hl with | [_, _, _], _ => rfl) len3 (fun cdv A outer s H vs Q E hr h => ?_)
  refine ⟨_, (pss_cons (ps_asg (pv 2) (pg_tup (by rfl) (pgs_cons (pg_name (i := 3) sc_law_same.nd rfl (by first | exact Or.inl rfl | exact Or.inr rfl)) (pgs_cons (pg_name (i := 4) sc_law_same.nd rfl (by first | exact Or.inl rfl | exact Or.inr rfl)) (pgs_cons (pg_name (i := 5) sc_law_same.nd rfl (by first | exact Or.inl rfl | exact Or.inr rfl)) pgs_nil)))))
      (pss_cons (ps_if (PW.pt (pw_or (pt_not (pt_cmpR (op_eqG (rc_web T) (hr.mono (by decide))) (pe_fld (pv 0) rfl) (pv 1) (nomark _))) (pw_or (pt_cmpR (op_neD hr.units) (pe_fld (pe_fld (pv 0) rfl) rfl) (pe_callTy call_tuple_of (by rfl) T.b_tuple (by decide +kernel) (pa_cons (pv 4) pa_nil)) (nomark _)) (pw_or1 (pt_cmpR (op_neD hr.units) (pe_fld (pe_fld (pv 0) rfl) rfl) (pe_callTy call_tuple_of (by rfl) T.b_tuple (by decide +kernel) (pa_cons (pv 5) pa_nil)) (nomark _)))))) (pss_one (ps_ret pe_bl))
      pss_nil)
      (pss_cons (ps_if (pt_cmpR op_ne (pe_callB call_lenD (by rfl) T.b_len (by decide +kernel) (pa_cons (pe_fld (pv 0) rfl) pa_nil)) (pe_callB call_lenD (by rfl) T.b_len (by decide +kernel) (pa_cons (pv 3) pa_nil)) (nomark _)) (pss_one (ps_ret pe_bl))
      pss_nil)
      (pss_cons (ps_lock (ps_for PassesOwn.never rfl (pi_keys (pv 3)) (pg_name (i := 6) sc_law_same.nd rfl (by first | exact Or.inl rfl | exact Or.inr rfl))
      (pss_one (ps_if (pt_cmpR (op_neD hr.units) (pe_fld (C8.pe_mt (mt_Task_uses T) hr (by decide) (pv 0) (pa_cons (pv 6) pa_nil)) rfl) (pe_callTy call_tuple_of (by rfl) T.b_tuple (by decide +kernel) (pa_cons (pe_lc (own := [("_law_place", 7)]) (g := gName 7) (tt := _) rfl sc_law_same.nd (pi_range1 (by rfl) T.b_range (pa_cons pe_int pa_nil)) (blkOk_by (own := [("_law_place", 7)]) (N := ["_law_task", "_law_web_here", "_law_state", "_law_seats_here", "_law_saves", "_law_backs", "_law_name", "_law_place"]) (sc := defScope s_law_same) (by decide +kernel)) (fun _ _ _ _ _ => pg_name (i := 7) sc_law_same.nd rfl (by first | exact Or.inl rfl | exact Or.inr rfl)) (fun _ _ _ _ _ => pts_one (pt_cmpR (op_inK K rfl) (pv 7) (pe_dget (hu_of hr) (pv 3) (pv 6) (fun _ _ => rfl)) (by rfl))) (fun _ _ _ _ _ => (pv 7))) pa_nil)) (nomark _)) (pss_one (ps_ret pe_bl))
      pss_nil))))
      (pss_one (ps_ret pe_bl)))))), ?_⟩
  -- slots: 0:_law_task 1:_law_web_here 2:_law_state 3:_law_seats_here 4:_law_saves 5:_law_backs 6:_law_name 7:_law_place
  obtain ⟨x, y, z, rfl, W, s, ts, hT, seq, sok, n24, hw', hst, q⟩ := h
  have lin : 2000 < sizeLine := by rw [sizeLine_eq]; omega
  obtain ⟨p, dx, w0, d', pr, rfl, hp, hw, ⟨F', hd', hF'⟩, hpr⟩ := id hT
  obtain ⟨pp, dp, w1, tsv, tbk, rfl, hpp, hw1, htsv, htbk, _⟩ := id hpr
  obtain ⟨t, d, a, b, rfl, ht, ⟨F, hd, hF⟩, sa, sb⟩ := id hst
  refine ⟨_, rfl, t, _, rfl, ht, rfl, _, _, rfl, _, _, rfl, _, _, rfl, rfl, ?_⟩
  refine ⟨_, rfl, p, _, dx, _, _, rfl, hp, T.c_Task, T.n_Task_web, rfl, _, rfl, web_eq hw hw', fun H1 x1 => ⟨true, rfl, iteF ?_⟩⟩
  have pos : ∀ (t : Addr) (H' : Hp) (os : List (Option Int)), SqT K H' t (os.map oV) → Dp K H' (.ref t) (.tuple (os.map oI)) := fun t H' os h => .tup h (.os os)
  have vv : ∀ os : List (Option Int), (!PyData.eqv (.tuple (os.map oI)) (.tuple (os.map oI))) = false := fun os => by rw [eqv_self (nb_os os)]; rfl
  refine ⟨_, rfl, p, _, dx, _, _, rfl, x1 _ _ hp, T.c_Task, T.n_Task_prices, rfl, pp, _, dp, _, _, rfl, x1 _ _ hpp, T.c_Prices, T.n_Prices_saves, rfl, _, rfl, a, _, rfl, .inl ⟨sa.ext x1, fun u1 hu1 => ?_⟩⟩
  have x2 := Ext.upd hu1 (o := .tup (s.sv.map oV))
  have x12 := x1.trans x2
  refine ⟨_, _, pos _ _ _ (htsv.ext x12), pos _ _ _ (.of upd_same), (shp_os _).ed (by decide), (shp_os _).ed (by decide), false, congrArg V.bl (vv _), iteF ?_⟩
  refine ⟨_, rfl, p, _, dx, _, _, rfl, x12 _ _ hp, T.c_Task, T.n_Task_prices, rfl, pp, _, dp, _, _, rfl, x12 _ _ hpp, T.c_Prices, T.n_Prices_backs, rfl, _, rfl, b, _, rfl, .inl ⟨sb.ext x12, fun u2 hu2 => ?_⟩⟩
  have x3 := Ext.upd hu2 (o := .tup (s.bk.map oV))
  have x13 := x12.trans x3
  refine ⟨_, _, pos _ _ _ (htbk.ext x13), pos _ _ _ (.of upd_same), (shp_os _).ed (by decide), (shp_os _).ed (by decide), false, congrArg V.bl (vv _), iteF ?_⟩
  have ll := seq_len seq
  have lk : ∀ l : SL, (sk l).length = l.length := fun l => List.length_map _
  refine ⟨_, rfl, p, _, dx, _, _, rfl, x13 _ _ hp, T.c_Task, T.n_Task_seats, rfl, d', _, rfl, x13 _ _ hd', _, rfl, d, _, rfl, x13 _ _ hd, rfl, false, congrArg V.bl ?_, iteF ?_⟩
  · rw [dg_len, dg_len, lk, lk, ll]
    show (!decide (V.int _ = V.int _)) = false
    rw [decide_eq_true rfl]
    rfl
  have nd : d' ≠ d := fun z => by
    rw [z, hd] at hd'
    have e := HO.dK.inj (Option.some.inj hd')
    have l1 := sok.l1
    cases hts : ts with
    | nil =>
      rw [hts] at l1
      cases l1
    | cons t0 tr =>
      have m0 : t0 ∈ ts := by rw [hts]; exact List.mem_cons_self
      have mk : ((Sum.inr t0.1 : Key), F' (Sum.inr t0.1)) ∈ dG (sk ts) F' := List.mem_map.mpr ⟨_, mem_sk.mpr (List.mem_map.mpr ⟨t0, m0, rfl⟩), rfl⟩
      rw [← e] at mk
      obtain ⟨k, hk, ek⟩ := List.mem_map.mp mk
      obtain ⟨s0, hs0, rfl⟩ := List.mem_map.mp hk
      have e1 := congrArg Prod.fst ek
      have e2 := congrArg Prod.snd ek
      obtain ⟨a0, ea, sa0⟩ := hF s0 hs0
      obtain ⟨p0, dx0, t00, ep, hp0, _⟩ := hF' t0 m0
      have e3 : V.ref a0 = V.ref p0 := by
        rw [← ea, ← ep]
        exact e2
      rw [V.ref.inj e3] at sa0
      rw [hp0] at sa0
      cases sa0
  generalize upd (upd H1 u1 (.tup (s.sv.map oV))) u2 (.tup (s.bk.map oV)) = H3 at x13 ⊢
  have hd3 := x13 _ _ hd
  refine ⟨d, _, hd3, True.intro, fun od => ?_⟩
  have c0 := Le.lock (o := od) hd3 True.intro (by intro _ _ _ z; cases z)
  have hd0 : upd H3 d (.frz od (.dK (dG (sk s.ss) F))) d = some (.frz od (.dK (dG (sk s.ss) F))) := upd_same
  have hd0' : upd H3 d (.frz od (.dK (dG (sk s.ss) F))) d' = some (.dK (dG (sk ts) F')) := by rw [upd_ne nd]; exact x13 _ _ hd'
  have uex : ∀ H', Ext (upd H3 d (.frz od (.dK (dG (sk s.ss) F)))) H' → Ext H3 (upd H' d (.dK (dG (sk s.ss) F))) := fun H' x => unlock_ext hd3 x
  generalize upd H3 d (.frz od (.dK (dG (sk s.ss) F))) = H0 at hd0 hd0' c0 uex ⊢
  have c1 : Le H H0 := (Le.of x13).trans c0
  have hT0 : IsTask K H0 (.ref p) W ts s.sv s.bk := ⟨p, dx, w0, d', .ref pp, rfl, c1.ins _ _ _ _ hp, IsWeb.im hw c1.im, ⟨F', hd0', fun s hs => (hF' s hs).im c1.im⟩, hpr.im c1.im⟩
  have hp0 := c1.ins _ _ _ _ hp
  refine ⟨_, rfl, d, od, rfl, .inl ⟨_, hd0, for_keysK (fun i σ H' => ∃ v6, σ = [some (.ref p), some y, some (.ref t), some (.ref d), some (.ref a), some (.ref b), v6, none] ∧ Ext H0 H') ⟨_, rfl, Ext.rfl'⟩ (fun i σ H' z => by obtain ⟨_, _, x⟩ := z; exact x _ _ hd0) ?_ ?_⟩⟩
  · rintro i k σ H' hi ⟨v6, rfl, x4⟩
    unfold sk at hi
    rw [List.getElem?_map] at hi
    obtain ⟨u, hu, rfl⟩ := Option.map_eq_some_iff.mp hi
    have mu : u ∈ s.ss := List.mem_of_getElem? hu
    have nu : u.1 ∈ s.ss.map Prod.fst := List.mem_map.mpr ⟨u, mu, rfl⟩
    obtain ⟨u', mu', eu⟩ := List.mem_map.mp ((seq.nm u.1).mpr nu)
    refine ⟨_, rfl, p, dx, _, rfl, x4 _ _ hp0, rfl, _, rfl, _, _, rfl, W, ts, s.sv, s.bk, u', hT0.ext x4, mu', seq.na, by rw [eu]; rfl, fun z lot => ?_⟩
    obtain ⟨q1, dq, tq, rfl, hq, htq, asc⟩ := id lot
    refine ⟨q1, _, dq, _, _, rfl, hq, T.c_Lot, T.n_Lot_places, rfl, ?_⟩
    refine ⟨_, rfl, by omega, by omega, fun D hD => lcD_range (K := K) (fun i => if decide ((i : Int) ∈ u.2) = true then some (.int (i : Nat)) else none) hD (by show 24 ≤ sizeLine; omega) ?_ ?_⟩
    · intro j H5 Nx hj y1 tn
      obtain ⟨a0, ea, sa0⟩ := hF u mu
      have yy := y1.trans off_le
      have hm : (Sum.inr u.1 : Key) ∈ sk s.ss := mem_sk.mpr nu
      have get : DGet H5 d (V.str u.1) (some (F (Sum.inr u.1))) := .inl ⟨_, Sum.inr u.1, .inr ⟨od, (x4.trans yy) _ _ hd0⟩, rfl, by rw [dg_val, if_pos hm]⟩
      refine ⟨rfl, _, rfl, _, rfl, _, rfl, d, _, rfl, get, ?_⟩
      rw [ea]
      refine ⟨a0, _, rfl, .inl ((SqL.le (.of sa0) c1).ext (x4.trans yy)), rfl, flat_ints _, _, rfl, ?_⟩
      show if inV (V.int (0 + (j : Int))) (u.2.map V.int) = true then _ else _
      rw [inV_ints, show (0 + (j : Int)) = j by omega]
      cases h : decide ((j : Int) ∈ u.2) with
      | true => exact iteT ⟨_, rfl, tn.keep0 (d := .int (j : Nat)) (if_pos h) (.int _)⟩
      | false => exact iteF (tn.drop0 (if_neg (by rw [h]; exact Bool.false_ne_true)))
    · intro H5 md
      rw [show (24 : Int).toNat = 24 from rfl, fm_if] at md
      obtain ⟨acc, y1, hacc, da⟩ := id md
      have yy := y1.trans off_le
      have e24 := asc_24 asc (seq.mm u' mu' u mu eu) fun k hk => ⟨(sok.ip u' mu' k hk).1, by have := (sok.ip u' mu' k hk).2; omega⟩
      have ed : ((List.range 24).filter fun i : Nat => decide ((i : Int) ∈ u.2)).map (fun i => PyData.int (i : Nat)) = u'.2.map PyData.int := by
        rw [e24, List.map_map]
        rfl
      rw [ed] at da
      refine ⟨D, _, rfl, .inl ⟨.of hacc, fun l hl => ?_⟩⟩
      have y2 := Ext.upd hl (o := .tup acc)
      have d1 : Dp K (upd H5 l (.tup acc)) (.ref tq) (.tuple (u'.2.map PyData.int)) := .tup (htq.ext (yy.trans y2)) (DpAll.ints _)
      have d2 : Dp K (upd H5 l (.tup acc)) (.ref l) (.tuple (u'.2.map PyData.int)) := .tup (.of upd_same) ((da.ext off_le).ext y2)
      refine ⟨_, _, d1, d2, (shp_it _).ed (by decide), (shp_it _).ed (by decide), false, congrArg V.bl (by rw [eqv_self (nb_is _)]; rfl), iteF ⟨_, rfl, x4.trans (yy.trans y2)⟩⟩
  · rintro σ H' ⟨v6, rfl, x4⟩
    exact ⟨x4 _ _ hd0, q _ (x13.trans (uex _ x4))⟩
end
end Sv
namespace Sv
open PySem PySem.Spec PyProof.Rows L2
/-! ### _law_known_answers -/
theorem W0G : W0.G = [(0, 1), (-1, 0), (1, -1)] := by decide +kernel
theorem W0ok : W0.Ok := by
  refine ⟨by show (0 : Int) < 2; decide, by show (2 : Int) ≤ 24; decide, by show 1 ≤ 80; decide, ?_, fun p hp => ?_, ⟨by show (0 : Int) ≤ 0; decide, by show (0 : Int) < 2; decide⟩, fun g hg => ?_⟩
  · have := exits_len 2 [1]
    show (exits 2 [1]).length ≤ 60
    omega
  · rw [List.mem_singleton.mp hp]
    exact ⟨⟨by decide, by show (0 : Int) < 2; decide⟩, ⟨by decide, by show (1 : Int) < 2; decide⟩⟩
  · exact mem_below.mp (List.mem_filter.mp hg).1
theorem W0pre : WebPre 2 [(0, 1)] 0 [1] := by
  refine ⟨by decide, by decide, by decide, by decide, fun p hp => ?_, ⟨by decide, by decide⟩, by simp, fun g hg => ?_, by decide, fun k hk ks h1 h2 => ?_, fun k hk ks h1 h2 => ?_⟩
  · rw [List.mem_singleton.mp hp]
    exact ⟨⟨by decide, by decide⟩, ⟨by decide, by decide⟩⟩
  · rw [List.mem_singleton.mp hg]
    exact ⟨by decide, by decide⟩
  · obtain ⟨k0, k1⟩ := hk
    rcases (show k = 0 ∨ k = 1 by omega) with rfl | rfl
    · exact h1
    · exact h2 (0, 1) (by simp) h1
  · obtain ⟨k0, k1⟩ := hk
    have h3 := h1 1 (by simp)
    rcases (show k = 0 ∨ k = 1 by omega) with rfl | rfl
    · exact h2 (0, 1) (by simp) h3
    · exact h3
theorem ones_ok : ∀ o ∈ ones, OkP o := fun o ho i hi => by
  simp only [ones, List.mem_cons, List.not_mem_nil, or_false, or_self] at ho
  rw [ho] at hi
  cases hi
  decide
theorem pr0 : PrOk W0 ones ones := ⟨by rw [W0G]; rfl, by rw [W0G]; rfl, ones_ok, ones_ok⟩
theorem abc_good : ∀ n ∈ (["a", "b", "c"] : List PySem.Str), GoodN n := fun n h => by
  have a : ∀ n ∈ (["a", "b", "c"] : List PySem.Str), 1 ≤ n.cps.size ∧ n.cps.size ≤ 8 ∧ ∀ c ∈ n.cps.toList, c ∈ letters.cps.toList := by decide +kernel
  exact ⟨(a n h).1, (a n h).2.1, (a n h).2.2⟩
theorem ndA : (sA.ss.map Prod.fst).Nodup := by decide +kernel
theorem ndB : (sB.ss.map Prod.fst).Nodup := by decide +kernel
theorem okA : SsOk 2 sA.ss := by
  refine ⟨by decide, by decide, ndA, fun s hs => abc_good _ ?_, fun s hs k hk => ?_, fun s hs => ?_⟩ <;> simp only [sA, List.mem_cons, List.not_mem_nil, or_false] at hs <;> rcases hs with rfl | rfl
  · simp
  · simp
  · rw [List.mem_singleton.mp hk]; exact ⟨by decide, by decide⟩
  · rw [List.mem_singleton.mp hk]; exact ⟨by decide, by decide⟩
  · decide
  · decide
theorem okB : SsOk 2 sB.ss := by
  have two : ∀ k ∈ ([0, 1] : List Int), InR 2 k := fun k hk => by
    simp only [List.mem_cons, List.not_mem_nil, or_false] at hk
    rcases hk with rfl | rfl
    · exact ⟨by decide, by decide⟩
    · exact ⟨by decide, by decide⟩
  refine ⟨by decide, by decide, ndB, fun s hs => abc_good _ ?_, fun s hs k hk => ?_, fun s hs => ?_⟩ <;> simp only [sB, List.mem_cons, List.not_mem_nil, or_false] at hs <;> rcases hs with rfl | rfl | rfl
  · simp
  · simp
  · simp
  · exact two k hk
  · exact two k hk
  · exact two k hk
  · decide
  · decide
  · decide
theorem strs_ok : ∀ n ∈ (["a", "b", "c"] : List PySem.Str), PyData.strOk n = true := fun n h => (abc_good n h).strOk
theorem oeA : ∀ e ∈ esA, OkE W0 (sA.ss.map Prod.fst) e ∧ OkS e := fun e he => by
  have g3 : W0.G.length = 3 := by rw [W0G]; rfl
  have z0 : OkP (some 0) := fun i hi => by cases hi; decide
  simp only [esA, List.mem_cons, List.not_mem_nil, or_false] at he
  rcases he with rfl | rfl | rfl | rfl | rfl | rfl <;> exact ⟨⟨fun _ _ _ z => (by cases z), fun g b o z => (by cases z; exact ⟨by rw [g3]; decide, z0⟩)⟩, fun _ _ _ z => (by cases z)⟩
theorem oeB : ∀ e ∈ esB, OkE W0 (sB.ss.map Prod.fst) e ∧ OkS e := fun e he => by
  have k0 : InR W0.n 0 := ⟨by decide, by show (0 : Int) < 2; decide⟩
  have k1 : InR W0.n 1 := ⟨by decide, by show (1 : Int) < 2; decide⟩
  simp only [esB, List.mem_cons, List.not_mem_nil, or_false] at he
  rcases he with rfl | rfl | rfl | rfl | rfl | rfl <;> exact ⟨⟨fun _ _ _ z => (by cases z; exact ⟨by simp [sB], by first | exact k0 | exact k1⟩), fun _ _ _ z => (by cases z)⟩, fun _ _ _ z => (by cases z; exact strs_ok _ (by simp))⟩
theorem nuA : esA.Nodup := by decide +kernel
theorem nuB : esB.Nodup := by decide +kernel
theorem tfs_ok {W : WD} (ok : W.Ok) (es : List Ed) (s : St) : ∀ l ts c, (∀ a ∈ l, a < es.length) → SEq ts (runE es l s).ss → SsOk W.n ts → TotC W ts (runE es l s).sv (runE es l s).bk c → c = tfL W es s l :=
  fun l ts c _ seq sok tc => tot_law ok seq (fun s hs k hk => sok.ip s hs k hk) tc
theorem takeA (i : Nat) (h : i < 3) : esA.take (2 * (i + 1)) = esA.take (2 * i) ++ [.price i true (some 0), .price i false (some 0)] := by
  rcases (show i = 0 ∨ i = 1 ∨ i = 2 by omega) with rfl | rfl | rfl <;> rfl
theorem takeB (i : Nat) (x : PySem.Str) (h : (["a", "b", "c"] : List PySem.Str)[i]? = some x) : esB.take (2 * (i + 1)) = esB.take (2 * i) ++ [.at false x 0, .at false x 1] := by
  rcases (show i = 0 ∨ i = 1 ∨ i = 2 ∨ 3 ≤ i by omega) with rfl | rfl | rfl | h3
  · cases h; rfl
  · cases h; rfl
  · cases h; rfl
  · rw [List.getElem?_eq_none (by simpa using h3)] at h
    cases h
section
variable {K : PySem.W.Frag} {H1 : Hp} {φ : Hp → Prop} {E : XK} {x dx : Addr}
theorem web_mk1 {a b : Addr} {n o : Int} {ps : Gt} {gs : List Int} (hx : H1 x = none) (hd : H1 dx = none) (ne : dx ≠ x) (hp : Dp K H1 (.ref a) (.list (List.map eP ps))) (hb : SqL K H1 b (List.map V.int gs)) (pre : WebPre n ps o gs)
    (k : ∀ H', Ext H1 H' → IsWeb K H' (.ref x) n ps o (exits n gs) → φ H') :
    spWebI K [.ref x, .int n, .ref a, .int o, .ref b] (upd (upd H1 dx (.own x)) x (.ins (cWeb K) dx [])) (fun v H2 => v = .non ∧ φ H2) E :=
  ⟨_, _, _, _, _, rfl, x, dx, a, n, ps, o, b, gs, rfl, rfl, rfl, rfl, rfl, upd_same, hp.ext (mk_in hx hd ne), hb.ext (mk_in hx hd ne), pre, fun H' B hw => ⟨rfl, k H' (mk_ext hx hd ne B) hw⟩⟩
theorem pr_mk1 {y : V} {a b : Addr} {W : WD} {sv bk : List (Option Int)} (hx : H1 x = none) (hd : H1 dx = none) (ne : dx ≠ x) (hw : IsW K H1 y W) (ha : Sv.SqA K H1 a (sv.map oV)) (hb : Sv.SqA K H1 b (bk.map oV)) (ls : sv.length = W.G.length) (lb : bk.length = W.G.length) (os : ∀ o ∈ sv, OkP o) (ob : ∀ o ∈ bk, OkP o)
    (k : ∀ H', Ext H1 H' → IsPr K H' (.ref x) W sv bk → φ H') :
    spPrI K [.ref x, y, .ref a, .ref b] (upd (upd H1 dx (.own x)) x (.ins (cPr K) dx [])) (fun v H2 => v = .non ∧ φ H2) E :=
  ⟨_, _, _, _, rfl, x, dx, W, a, b, sv, bk, rfl, upd_same, IsWeb.im hw (.of (mk_in hx hd ne)), rfl, rfl, SqA.ext ha (mk_in hx hd ne), SqA.ext hb (mk_in hx hd ne), ls, lb, os, ob, fun H' B h => ⟨rfl, k H' (mk_ext hx hd ne B) h⟩⟩
theorem task_mk1 {y u : V} {a : Addr} {W : WD} {ss : SL} {sv bk : List (Option Int)} (hx : H1 x = none) (hd : H1 dx = none) (ne : dx ≠ x) (wok : W.Ok) (hw : IsW K H1 y W) (hs : SeatsIn K H1 a ss) (sok : SsOk W.n ss) (hpr : IsPr K H1 u W sv bk)
    (k : ∀ ts H', Ext H1 H' → IsTask K H' (.ref x) W ts sv bk → SEq ts ss → SsOk W.n ts → φ H') :
    spTaskI K [.ref x, y, .ref a, u] (upd (upd H1 dx (.own x)) x (.ins (cTask K) dx [])) (fun v H2 => v = .non ∧ φ H2) E := by
  refine ⟨_, _, _, _, rfl, x, dx, W, a, ss, sv, bk, rfl, upd_same, wok, hw.ext (mk_in hx hd ne), rfl, ?_, sok, hpr.ext (mk_in hx hd ne), fun ts H' B h s1 s2 => ⟨rfl, k ts H' (mk_ext hx hd ne B) h s1 s2⟩⟩
  obtain ⟨F, h1, h2⟩ := hs
  refine ⟨F, mk_in hx hd ne _ _ h1, fun s hs => ?_⟩
  obtain ⟨b, e, i⟩ := h2 s hs
  exact ⟨b, e, i.ext (mk_in hx hd ne)⟩
end
def spKnown : Sp := sp0 fun H Q => ∀ H', Ext H H' → Q (.bl true) H'
section
variable {P : Program} {w : World} {K : PySem.W.Frag} {mg : PySem.Str → Option Value} {base : Heap}
theorem sc_law_known_answers : FnScope ["_law_web_here", "_law_prices_here", "_law_menu_here", "_law_gate", "_law_frees", "_law_name", "_law_task"] [] (defScope s_law_known_answers) := ⟨rfl, rfl, rfl, by decide +kernel, rfl, by decide +kernel, by decide +kernel⟩
theorem c_law_known_answers (T : Txt K mg) : C8.Cal P w K mg base 12 "_law_known_answers" (spKnown) [] := by
  obtain ⟨fd, F⟩ := T.f_law_known_answers
  refine calN F T.g_law_known_answers sc_law_known_answers (F.bindsN fun _ _ _ _ _ _ us hl => match us, hl with | [], _ => rfl) len0 (fun cdv A outer s H vs Q E hr h => ?_)
  refine ⟨_, (pss_cons (ps_set (i := 0) sc_law_known_answers.nd rfl (by first | exact Or.inl rfl | exact Or.inr rfl) (C8.pe_mk (mk_Web T) hr (by decide) rfl (pa_cons pe_int (pa_cons (pe_lst (pa_cons (pe_tup (pa_cons pe_int (pa_cons pe_int pa_nil))) pa_nil)) (pa_cons pe_int (pa_cons (pe_lst (pa_cons pe_int pa_nil)) pa_nil))))))
      (pss_cons (ps_set (i := 1) sc_law_known_answers.nd rfl (by first | exact Or.inl rfl | exact Or.inr rfl) (C8.pe_mk (mk_Prices T) hr (by decide) rfl (pa_cons (pv 0) (pa_cons (pe_lst (pa_cons pe_int (pa_cons pe_int (pa_cons pe_int pa_nil)))) (pa_cons (pe_lst (pa_cons pe_int (pa_cons pe_int (pa_cons pe_int pa_nil)))) pa_nil)))))
      (pss_cons (ps_set (i := 2) sc_law_known_answers.nd rfl (by first | exact Or.inl rfl | exact Or.inr rfl) (pe_lst pa_nil))
      (pss_cons (ps_for PassesOwn.never rfl (pi_range1 (by rfl) T.b_range (pa_cons pe_int pa_nil)) (pg_name (i := 3) sc_law_known_answers.nd rfl (by first | exact Or.inl rfl | exact Or.inr rfl))
      (pss_one (ps_set (i := 2) sc_law_known_answers.nd rfl (by first | exact Or.inl rfl | exact Or.inr rfl) (pe_op op_cat (pv 2) (pe_lst (pa_cons (pe_tup (pa_cons pe_str (pa_cons (pv 3) (pa_cons pe_str (pa_cons pe_int pa_nil))))) (pa_cons (pe_tup (pa_cons pe_str (pa_cons (pv 3) (pa_cons pe_str (pa_cons pe_int pa_nil))))) pa_nil)))))))
      (C8.pss_cut (ps_if (pt_cmpR (op_neD hr.units) (C8.pe_c (c_mending T) hr (by decide) rfl (pa_cons (C8.pe_mk (mk_Task T) hr (by decide) rfl (pa_cons (pv 0) (pa_cons (pe_disp (pps_cons pe_str (pe_lst (pa_cons pe_int pa_nil)) (pps_cons pe_str (pe_lst (pa_cons pe_int pa_nil)) pps_nil)) (by rfl) (by rfl) (fun z => by cases z) (by decide)) (pa_cons (pv 1) pa_nil)))) (pa_cons (pv 2) (pa_cons pe_int pa_nil)))) (pe_tup (pa_cons (pe_tup (pa_cons pe_int (pa_cons pe_int pa_nil))) (pa_cons (pe_tup (pa_cons pe_int (pa_cons pe_int pa_nil))) pa_nil))) (nomark _)) (pss_one (ps_ret pe_bl))
      pss_nil)
      (pss_cons (ps_set (i := 4) sc_law_known_answers.nd rfl (by first | exact Or.inl rfl | exact Or.inr rfl) (pe_lst pa_nil))
      (pss_cons (ps_for PassesOwn.never rfl (pi_list (pe_lst (pa_cons pe_str (pa_cons pe_str (pa_cons pe_str pa_nil))))) (pg_name (i := 5) sc_law_known_answers.nd rfl (by first | exact Or.inl rfl | exact Or.inr rfl))
      (pss_one (ps_set (i := 4) sc_law_known_answers.nd rfl (by first | exact Or.inl rfl | exact Or.inr rfl) (pe_op op_cat (pv 4) (pe_lst (pa_cons (pe_tup (pa_cons pe_str (pa_cons (pv 5) (pa_cons pe_int pa_nil)))) (pa_cons (pe_tup (pa_cons pe_str (pa_cons (pv 5) (pa_cons pe_int pa_nil)))) pa_nil)))))))
      (pss_cons (ps_set (i := 6) sc_law_known_answers.nd rfl (by first | exact Or.inl rfl | exact Or.inr rfl) (C8.pe_mk (mk_Task T) hr (by decide) rfl (pa_cons (pv 0) (pa_cons (pe_disp (pps_cons pe_str (pe_lst (pa_cons pe_int (pa_cons pe_int pa_nil))) (pps_cons pe_str (pe_lst (pa_cons pe_int (pa_cons pe_int pa_nil))) (pps_cons pe_str (pe_lst (pa_cons pe_int (pa_cons pe_int pa_nil))) pps_nil))) (by rfl) (by rfl) (fun z => by cases z) (by decide)) (pa_cons (pv 1) pa_nil)))))
      (pss_one (ps_ret (pe_and (pe_cmpR (op_eqD hr.units) (C8.pe_c (c_mending T) hr (by decide) rfl (pa_cons (pv 6) (pa_cons (pe_callTy call_tuple_of (by rfl) T.b_tuple (by decide +kernel) (pa_cons (pv 4) pa_nil)) (pa_cons pe_int pa_nil)))) (pe_tup (pa_cons (pe_tup (pa_cons pe_int (pa_cons pe_int (pa_cons pe_int (pa_cons pe_int (pa_cons pe_int (pa_cons pe_int pa_nil))))))) pa_nil)) (nomark _)) (pe_one (pe_cmpR (op_eqD hr.units) (C8.pe_c (c_mending T) hr (by decide) rfl (pa_cons (pv 6) (pa_cons (pv 4) (pa_cons pe_int pa_nil)))) (pe_tup (pa_cons (pe_tup pa_nil) pa_nil)) (nomark _)))))))))))))), ?_⟩
  -- slots: 0:_law_web_here 1:_law_prices_here 2:_law_menu_here 3:_law_gate 4:_law_frees 5:_law_name 6:_law_task
  obtain ⟨rfl, q⟩ := h
  have lin : 2000 < sizeLine := by rw [sizeLine_eq]; omega
  refine ⟨by show 2 ≤ sizeLine; omega, fun t ht => ⟨by show 1 ≤ sizeLine; omega, fun l hl => ⟨by show 1 ≤ sizeLine; omega, fun g hg => ?_⟩⟩⟩
  have x1 := Ext.upd ht (o := .tup [.int 0, .int 1])
  have x2 := Ext.upd hl (o := .lst [.ref t])
  have x3 := Ext.upd hg (o := .lst [.int 1])
  have x13 := x1.trans (x2.trans x3)
  intro xw dw hxw hdw new
  refine web_mk1 (ps := [(0, 1)]) (gs := [1]) hxw hdw new (.lst (.of (x3 _ _ upd_same)) (.cons (.tup (.of ((x2.trans x3) _ _ upd_same)) (.cons (.int _) (.cons (.int _) .nil))) .nil)) (.of upd_same) W0pre fun H1 x4 hw => ?_
  have x14 := x13.trans x4
  have hw : IsW K H1 (.ref xw) W0 := hw
  refine ⟨_, rfl, by show 3 ≤ sizeLine; omega, fun a ha => ⟨by show 3 ≤ sizeLine; omega, fun b hb => ?_⟩⟩
  have x5 := Ext.upd ha (o := .lst [.int 1, .int 1, .int 1])
  have x6 := Ext.upd hb (o := .lst [.int 1, .int 1, .int 1])
  intro xq dq hxq hdq neq
  refine pr_mk1 (W := W0) (sv := ones) (bk := ones) hxq hdq neq (hw.ext (x5.trans x6)) (.inl (.of (x6 _ _ upd_same))) (.inl (.of upd_same)) pr0.ls pr0.lb ones_ok ones_ok fun H2 x7 hpr => ?_
  have x17 := x14.trans ((x5.trans x6).trans x7)
  have hw2 := hw.ext ((x5.trans x6).trans x7)
  refine ⟨Nat.zero_le _, fun M hM => ?_⟩
  refine ⟨3, rfl, by decide, by decide, for_range (fun i σ H' => ∃ M acc v3, σ = [some (.ref xw), some (.ref xq), some (.ref M), v3, none, none, none] ∧ Ext H2 H' ∧ H' M = some (.lst acc) ∧ DpAll K H' acc ((esA.take (2 * i)).map edD)) ⟨M, _, _, rfl, Ext.upd hM, upd_same, .nil⟩ ?_ ?_⟩
  · rintro i σ H3 hi ⟨M, acc, v3, rfl, y1, hM3, da⟩
    have i3 : i < 3 := hi
    have la : acc.length ≤ 6 := by
      rw [da.len, List.length_map, List.length_take]
      exact Nat.min_le_right _ _
    refine ⟨_, rfl, _, rfl, by show 4 ≤ sizeLine; omega, fun t1 h1 => ⟨_, rfl, by show 4 ≤ sizeLine; omega, fun t2 h2 => ⟨by show 2 ≤ sizeLine; omega, fun l hl => ?_⟩⟩⟩
    have e0 : (0 + (i : Int)) = i := by omega
    have z1 := Ext.upd h1 (o := .tup [.str "price", .int (0 + (i : Int)), .str "save", .int 0])
    have z2 := Ext.upd h2 (o := .tup [.str "price", .int (0 + (i : Int)), .str "back", .int 0])
    have z3 := Ext.upd hl (o := .lst [.ref t1, .ref t2])
    have z13 := z1.trans (z2.trans z3)
    refine ⟨M, l, acc, _, rfl, rfl, z13 _ _ hM3, upd_same, by show acc.length + 2 ≤ sizeLine; omega, fun R hR => ?_⟩
    have z4 := Ext.upd hR (o := .lst (acc ++ [.ref t1, .ref t2]))
    refine ⟨R, _, _, rfl, y1.trans (z13.trans z4), upd_same, ?_⟩
    rw [takeA i i3, List.map_append]
    refine (da.ext (z13.trans z4)).app (.cons (.tup (.of ((z2.trans (z3.trans z4)) _ _ upd_same)) ?_) (.cons (.tup (.of ((z3.trans z4) _ _ upd_same)) ?_) .nil))
    · rw [e0]
      exact .cons (.str _) (.cons (.int _) (.cons (.str _) (.cons (.int _) .nil)))
    · rw [e0]
      exact .cons (.str _) (.cons (.int _) (.cons (.str _) (.cons (.int _) .nil)))
  · rintro σ H3 ⟨M, acc, v3, rfl, y1, hM3, da⟩
    have da : DpAll K H3 acc (esA.map edD) := da
    have hw3 := hw2.ext y1
    have hpr3 := hpr.ext y1
    refine ⟨fun σ' H' => σ' = [some (.ref xw), some (.ref xq), some (.ref M), v3, none, none, none] ∧ Ext H3 H', ?_, ?_⟩
    · refine ⟨_, rfl, fun d hd => ⟨by show 1 ≤ sizeLine; omega, fun l1 h1 => ⟨by show 1 ≤ sizeLine; omega, fun l2 h2 => ⟨Ext.upd h2 _ _ (Ext.upd h1 _ _ upd_same), [(Sum.inr "a", .ref l1), (Sum.inr "b", .ref l2)], rfl, by show 2 ≤ 15; decide, _, rfl, ?_⟩⟩⟩⟩
      have e11 : mergeK [] [((Sum.inr "a" : Key), V.ref l1), ((Sum.inr "b" : Key), V.ref l2)] = dG (sk sA.ss) (fun k : Key => if k = (Sum.inr "a" : Key) then .ref l1 else .ref l2) := by rfl
      rw [e11]
      have z1 : Ext H3 (upd (upd (upd (upd H3 d (.dK [])) l1 (.lst [.int 1])) l2 (.lst [.int 1])) d (.dK (dG (sk sA.ss) (fun k : Key => if k = (Sum.inr "a" : Key) then .ref l1 else .ref l2)))) := ((Ext.upd hd).trans ((Ext.upd h1).trans (Ext.upd h2))).put hd
      have n1 : l1 ≠ d := (ne_of_none upd_same h1).symm
      have n2 : l2 ≠ d := (ne_of_none (Ext.upd h1 _ _ upd_same) h2).symm
      have hl1 : upd (upd (upd (upd H3 d (.dK [])) l1 (.lst [.int 1])) l2 (.lst [.int 1])) d (.dK (dG (sk sA.ss) (fun k : Key => if k = (Sum.inr "a" : Key) then .ref l1 else .ref l2))) l1 = some (.lst [.int 1]) := by rw [upd_ne n1]; exact Ext.upd h2 _ _ upd_same
      have hl2 : upd (upd (upd (upd H3 d (.dK [])) l1 (.lst [.int 1])) l2 (.lst [.int 1])) d (.dK (dG (sk sA.ss) (fun k : Key => if k = (Sum.inr "a" : Key) then .ref l1 else .ref l2))) l2 = some (.lst [.int 1]) := by rw [upd_ne n2]; exact upd_same
      have hs : SeatsIn K (upd (upd (upd (upd H3 d (.dK [])) l1 (.lst [.int 1])) l2 (.lst [.int 1])) d (.dK (dG (sk sA.ss) (fun k : Key => if k = (Sum.inr "a" : Key) then .ref l1 else .ref l2)))) d sA.ss := by
        refine ⟨_, upd_same, fun s hs => ?_⟩
        simp only [sA, List.mem_cons, List.not_mem_nil, or_false] at hs
        rcases hs with rfl | rfl
        · exact ⟨l1, rfl, _, .l (.of hl1)⟩
        · exact ⟨l2, rfl, _, .l (.of hl2)⟩
      generalize upd (upd (upd (upd H3 d (.dK [])) l1 (.lst [.int 1])) l2 (.lst [.int 1])) d (.dK (dG (sk sA.ss) (fun k : Key => if k = (Sum.inr "a" : Key) then .ref l1 else .ref l2))) = H4 at z1 hs ⊢
      intro xt dt hxt hdt net
      refine task_mk1 (W := W0) (ss := sA.ss) hxt hdt net W0ok (hw3.ext z1) hs okA (hpr3.ext z1) fun ts H5 z2 tk seq sok => ?_
      have z12 := z1.trans z2
      refine ⟨_, rfl, _, _, _, rfl, W0, sA, esA, M, acc, 0, tfL W0 esA sA, ⟨W0ok, pr0, ts, tk, seq, sok⟩, rfl, .inl (.of (z12 _ _ hM3)), da.ext z12, rfl, oeA, by decide, nuA, tfs_ok W0ok esA sA, fun t H6 z3 dt => ?_⟩
      rw [known1] at dt
      refine ⟨by show 2 ≤ sizeLine; omega, fun u1 k1 => ⟨by show 2 ≤ sizeLine; omega, fun u2 k2 => ⟨by show 2 ≤ sizeLine; omega, fun u3 k3 => ?_⟩⟩⟩
      have w1 := Ext.upd k1 (o := .tup [.int 0, .int 5])
      have w2 := Ext.upd k2 (o := .tup [.int 2, .int 5])
      have w3 := Ext.upd k3 (o := .tup [.ref u1, .ref u2])
      have w13 := w1.trans (w2.trans w3)
      refine ⟨.tuple (List.map nD [[0, 5], [2, 5]]), .tuple (List.map nD [[0, 5], [2, 5]]), dt.ext w13, .tup (.of upd_same) (.cons (.tup (.of ((w2.trans w3) _ _ upd_same)) (.cons (.int _) (.cons (.int _) .nil))) (.cons (.tup (.of (w3 _ _ upd_same)) (.cons (.int _) (.cons (.int _) .nil))) .nil)), by decide +kernel, by decide +kernel, false, congrArg V.bl (by decide +kernel), iteF ⟨rfl, z12.trans (z3.trans w13)⟩⟩
    · rintro σ' H4 ⟨rfl, y2⟩
      have hw4 := hw3.ext y2
      have hpr4 := hpr3.ext y2
      have y12 := y1.trans y2
      refine ⟨Nat.zero_le _, fun Fr hFr => ?_⟩
      have y3 := Ext.upd hFr (o := .lst [])
      refine ⟨by show 3 ≤ sizeLine; omega, fun N hN => ⟨N, rfl, ⟨_, .of upd_same⟩, ?_⟩⟩
      have y4 := Ext.upd hN (o := .lst [.str "a", .str "b", .str "c"])
      have hN5 : upd (upd H4 Fr (.lst [])) N (.lst [.str "a", .str "b", .str "c"]) N = some (.lst [.str "a", .str "b", .str "c"]) := upd_same
      have hF5 := y4 _ _ (upd_same (H := H4) (a := Fr) (o := .lst []))
      have y34 := y3.trans y4
      generalize upd (upd H4 Fr (.lst [])) N (.lst [.str "a", .str "b", .str "c"]) = H5 at y34 hN5 hF5 ⊢
      refine for_list (K := K) (xs := [.str "a", .str "b", .str "c"]) (fun i σ H' => ∃ Fr acc v5, σ = [some (.ref xw), some (.ref xq), some (.ref M), v3, some (.ref Fr), v5, none] ∧ Ext H5 H' ∧ H' Fr = some (.lst acc) ∧ DpAll K H' acc ((esB.take (2 * i)).map edD)) ⟨Fr, _, _, rfl, Ext.rfl', hF5, .nil⟩ (fun i σ H' _ z => by obtain ⟨_, _, _, _, x, _⟩ := z; exact .of (x _ _ hN5)) ?_ ?_
      · rintro i v σ H6 hi ⟨Fr, acc, v5, rfl, z0, hF6, da⟩
        have hi : ((["a", "b", "c"] : List PySem.Str).map V.str)[i]? = some v := hi
        rw [List.getElem?_map] at hi
        obtain ⟨nm, hnm, rfl⟩ := Option.map_eq_some_iff.mp hi
        have la : acc.length ≤ 6 := by
          rw [da.len, List.length_map, List.length_take]
          exact Nat.min_le_right _ _
        refine ⟨_, rfl, _, rfl, by show 3 ≤ sizeLine; omega, fun t1 h1 => ⟨_, rfl, by show 3 ≤ sizeLine; omega, fun t2 h2 => ⟨by show 2 ≤ sizeLine; omega, fun l hl => ?_⟩⟩⟩
        have z1 := Ext.upd h1 (o := .tup [.str "free", .str nm, .int 0])
        have z2 := Ext.upd h2 (o := .tup [.str "free", .str nm, .int 1])
        have z3 := Ext.upd hl (o := .lst [.ref t1, .ref t2])
        have z13 := z1.trans (z2.trans z3)
        refine ⟨Fr, l, acc, _, rfl, rfl, z13 _ _ hF6, upd_same, by show acc.length + 2 ≤ sizeLine; omega, fun R hR => ?_⟩
        have z4 := Ext.upd hR (o := .lst (acc ++ [.ref t1, .ref t2]))
        refine ⟨R, _, _, rfl, z0.trans (z13.trans z4), upd_same, ?_⟩
        rw [takeB i nm hnm, List.map_append]
        exact (da.ext (z13.trans z4)).app (.cons (.tup (.of ((z2.trans (z3.trans z4)) _ _ upd_same)) (.cons (.str _) (.cons (.str _) (.cons (.int _) .nil)))) (.cons (.tup (.of ((z3.trans z4) _ _ upd_same)) (.cons (.str _) (.cons (.str _) (.cons (.int _) .nil)))) .nil))
      · rintro σ H6 ⟨Fr, acc, v5, rfl, z0, hF6, da⟩
        have da : DpAll K H6 acc (esB.map edD) := da
        have y46 := y34.trans z0
        refine ⟨_, rfl, fun d hd => ⟨by show 2 ≤ sizeLine; omega, fun l1 h1 => ⟨by show 2 ≤ sizeLine; omega, fun l2 h2 => ⟨by show 2 ≤ sizeLine; omega, fun l3 h3 => ⟨Ext.upd h3 _ _ (Ext.upd h2 _ _ (Ext.upd h1 _ _ upd_same)), [(Sum.inr "a", .ref l1), (Sum.inr "b", .ref l2), (Sum.inr "c", .ref l3)], rfl, by show 3 ≤ 15; decide, _, rfl, ?_⟩⟩⟩⟩⟩
        have e11 : mergeK [] [((Sum.inr "a" : Key), V.ref l1), ((Sum.inr "b" : Key), V.ref l2), ((Sum.inr "c" : Key), V.ref l3)] = dG (sk sB.ss) (fun k : Key => if k = (Sum.inr "a" : Key) then .ref l1 else if k = (Sum.inr "b" : Key) then .ref l2 else .ref l3) := by rfl
        rw [e11]
        generalize hdo : HO.dK (dG (sk sB.ss) (fun k : Key => if k = (Sum.inr "a" : Key) then .ref l1 else if k = (Sum.inr "b" : Key) then .ref l2 else .ref l3)) = dO
        have z1 : Ext H6 (upd (upd (upd (upd (upd H6 d (.dK [])) l1 (.lst [.int 0, .int 1])) l2 (.lst [.int 0, .int 1])) l3 (.lst [.int 0, .int 1])) d dO) := ((Ext.upd hd).trans ((Ext.upd h1).trans ((Ext.upd h2).trans (Ext.upd h3)))).put hd
        have n1 : l1 ≠ d := (ne_of_none upd_same h1).symm
        have n2 : l2 ≠ d := (ne_of_none (Ext.upd h1 _ _ upd_same) h2).symm
        have n3 : l3 ≠ d := (ne_of_none (Ext.upd h2 _ _ (Ext.upd h1 _ _ upd_same)) h3).symm
        have hl1 : upd (upd (upd (upd (upd H6 d (.dK [])) l1 (.lst [.int 0, .int 1])) l2 (.lst [.int 0, .int 1])) l3 (.lst [.int 0, .int 1])) d dO l1 = some (.lst [.int 0, .int 1]) := by rw [upd_ne n1]; exact Ext.upd h3 _ _ (Ext.upd h2 _ _ upd_same)
        have hl2 : upd (upd (upd (upd (upd H6 d (.dK [])) l1 (.lst [.int 0, .int 1])) l2 (.lst [.int 0, .int 1])) l3 (.lst [.int 0, .int 1])) d dO l2 = some (.lst [.int 0, .int 1]) := by rw [upd_ne n2]; exact Ext.upd h3 _ _ upd_same
        have hl3 : upd (upd (upd (upd (upd H6 d (.dK [])) l1 (.lst [.int 0, .int 1])) l2 (.lst [.int 0, .int 1])) l3 (.lst [.int 0, .int 1])) d dO l3 = some (.lst [.int 0, .int 1]) := by rw [upd_ne n3]; exact upd_same
        have hs : SeatsIn K (upd (upd (upd (upd (upd H6 d (.dK [])) l1 (.lst [.int 0, .int 1])) l2 (.lst [.int 0, .int 1])) l3 (.lst [.int 0, .int 1])) d dO) d sB.ss := by
          refine ⟨_, by rw [upd_same, ← hdo], fun s hs => ?_⟩
          simp only [sB, List.mem_cons, List.not_mem_nil, or_false] at hs
          rcases hs with rfl | rfl | rfl
          · exact ⟨l1, rfl, _, .l (.of hl1)⟩
          · exact ⟨l2, rfl, _, .l (.of hl2)⟩
          · exact ⟨l3, rfl, _, .l (.of hl3)⟩
        generalize upd (upd (upd (upd (upd H6 d (.dK [])) l1 (.lst [.int 0, .int 1])) l2 (.lst [.int 0, .int 1])) l3 (.lst [.int 0, .int 1])) d dO = H7 at z1 hs ⊢
        intro xt dt hxt hdt net
        refine task_mk1 (W := W0) (ss := sB.ss) hxt hdt net W0ok (hw4.ext (y46.trans z1)) hs okB (hpr4.ext (y46.trans z1)) fun ts H8 z2 tk seq sok => ?_
        have z12 := z1.trans z2
        refine ⟨_, rfl, _, rfl, Fr, _, rfl, .inl ⟨.of (z12 _ _ hF6), fun tu htu => ?_⟩⟩
        have z3 := Ext.upd htu (o := .tup acc)
        have z13 := z12.trans z3
        refine ⟨_, _, _, rfl, W0, sB, esB, tu, acc, 0, tfL W0 esB sB, ⟨W0ok, pr0, ts, tk.ext z3, seq, sok⟩, rfl, .inr (.of upd_same), da.ext z13, rfl, oeB, by decide, nuB, tfs_ok W0ok esB sB, fun t H9 z4 dt => ?_⟩
        rw [known2] at dt
        refine ⟨by show 6 ≤ sizeLine; omega, fun u1 k1 => ⟨by show 1 ≤ sizeLine; omega, fun u2 k2 => ?_⟩⟩
        have w1 := Ext.upd k1 (o := .tup [.int 0, .int 1, .int 2, .int 3, .int 4, .int 5])
        have w2 := Ext.upd k2 (o := .tup [.ref u1])
        have w12 := w1.trans w2
        refine ⟨.tuple (List.map nD [[0, 1, 2, 3, 4, 5]]), .tuple (List.map nD [[0, 1, 2, 3, 4, 5]]), dt.ext w12, .tup (.of upd_same) (.cons (.tup (.of (w2 _ _ upd_same)) (.cons (.int _) (.cons (.int _) (.cons (.int _) (.cons (.int _) (.cons (.int _) (.cons (.int _) .nil))))))) .nil), by decide +kernel, by decide +kernel, true, congrArg V.bl (by decide +kernel), iteT ?_⟩
        have z5 := z13.trans (z4.trans w12)
        have z25 := z3.trans (z4.trans w12)
        refine ⟨_, rfl, _, rfl, _, _, _, rfl, W0, sB, esB, Fr, acc, 6, tfL W0 esB sB, ⟨W0ok, pr0, ts, tk.ext z25, seq, sok⟩, rfl, .inl (.of (z5 _ _ hF6)), da.ext z5, rfl, oeB, by decide, nuB, tfs_ok W0ok esB sB, fun t2 H10 z6 dt2 => ?_⟩
        rw [known3] at dt2
        refine ⟨Nat.zero_le _, fun u3 k3 => ⟨by show 1 ≤ sizeLine; omega, fun u4 k4 => ?_⟩⟩
        have w3 := Ext.upd k3 (o := .tup [])
        have w4 := Ext.upd k4 (o := .tup [.ref u3])
        have w34 := w3.trans w4
        have ev : PyData.eqv (.tuple (List.map nD [[]])) (.tuple (List.map nD [[]])) = true := by decide +kernel
        refine ⟨.tuple (List.map nD [[]]), .tuple (List.map nD [[]]), dt2.ext w34, .tup (.of upd_same) (.cons (.tup (.of (w4 _ _ upd_same)) .nil) .nil), by decide +kernel, by decide +kernel, ?_⟩
        rw [ev]
        exact q _ (x17.trans (y12.trans (y46.trans (z5.trans (z6.trans w34)))))
end
end Sv
namespace Sv
open PySem PySem.Spec PyProof.Rows L2
/-! ### law -/
theorem pe_c0S {X : Cx} {k j : Nat} {x : PySem.Str} {sp : Sp} {dvs : List V} {p pos : Pos} (c : C8.Cal X.prog X.w X.K X.mg X.base k x sp dvs) (hr : Room j X.A) (hk : k ≤ j) (hg : Gl X x)
    (hdb : (x == ("__debug__" : PySem.Str)) = false := by decide) : PE X (.Call (.Name x p) [] [] pos) (tCall sp dvs C8.E0 tNil) := by
  obtain ⟨f, fd, ps, ds, F, hm, kp, b, d⟩ := c.ex
  exact pe_call0 F (hr.mono hk) hg hm kp b d C8.pass0 hdb
theorem im_butL {p : Addr} {H H' : Hp} (b : But p H H') (e : ∃ l, H p = some (.lst l)) : Im H H' := by
  refine ⟨tu_butL b e, fun a C dx fs h => b _ _ (fun z => ?_) h⟩
  obtain ⟨l, e⟩ := e
  rw [z, e] at h
  cases h
theorem task_butL {K : PySem.W.Frag} {p : Addr} {H H' : Hp} {x : V} {W : WD} {ss : SL} {sv bk : List (Option Int)} (b : But p H H') (e : ∃ l, H p = some (.lst l)) (h : IsTask K H x W ss sv bk) : IsTask K H' x W ss sv bk := by
  obtain ⟨q, dx, w, d, pr, rfl, h1, h2, ⟨F, h3, h4⟩, h5⟩ := h
  have im := im_butL b e
  refine ⟨q, dx, w, d, pr, rfl, im.ins _ _ _ _ h1, IsWeb.im h2 im, ⟨F, b _ _ (fun z => ?_) h3, fun s hs => (h4 s hs).im im⟩, h5.im im⟩
  obtain ⟨l, e⟩ := e
  rw [z, e] at h3
  cases h3
/-- what stands when the menu is drawn -/
structure LC (K : PySem.W.Frag) (p : Addr) (tv wv xt : V) (n o : Int) (ps : Gt) (gs : List Int) (sv bk : List (Option Int)) (ss : SL) (es : List Ed) (a b d ts D : Addr) (acc : List V) (H : Hp) : Prop where
  told : Dp K (Off p H) tv (toldD n ps o gs)
  web : IsW K H wv ⟨n, ps, o, exits n gs⟩
  sa : SqL K (Off p H) a (sv.map oV)
  sb : SqL K (Off p H) b (bk.map oV)
  sd : SdP p d n H ss
  nd : d ≠ p
  st : SqT K H ts [.ref d, .ref a, .ref b]
  tk : ∃ us, IsTask K H xt ⟨n, ps, o, exits n gs⟩ us sv bk ∧ SEq us ss ∧ SsOk n us
  mD : H D = some (.lst acc)
  nD : D ≠ p
  me : DpAll K H acc (es.map edD)
section
variable {K : PySem.W.Frag} {p : Addr} {tv wv xt : V} {n o : Int} {ps : Gt} {gs : List Int} {sv bk : List (Option Int)} {ss : SL} {es : List Ed} {a b d ts D : Addr} {acc : List V} {H H' : Hp}
theorem LC.but (h : LC K p tv wv xt n o ps gs sv bk ss es a b d ts D acc H) (B : But p H H') (e : ∃ l, H p = some (.lst l)) : LC K p tv wv xt n o ps gs sv bk ss es a b d ts D acc H' :=
  ⟨h.told.ext (ext_but B), IsWeb.im h.web (im_butL B e), h.sa.ext (ext_but B), h.sb.ext (ext_but B), h.sd.but B h.nd, h.nd, h.st.tu (tu_butL B e), h.tk.elim fun us z => ⟨us, task_butL B e z.1, z.2⟩, B _ _ h.nD h.mD, h.nD, DpAll.tu (tu_butL B e) _ _ (nls_edD es) h.me⟩
theorem LC.seats (h : LC K p tv wv xt n o ps gs sv bk ss es a b d ts D acc H) : SeatsL K H d ss := by
  obtain ⟨F, h1, h2⟩ := h.sd.at_
  exact ⟨F, h1, fun s hs => (h2 s hs).imp fun a z => ⟨z.1, z.2.2⟩⟩
theorem LC.stl (h : LC K p tv wv xt n o ps gs sv bk ss es a b d ts D acc H) : StL K H (.ref ts) ⟨ss, sv, bk⟩ := ⟨ts, d, a, b, rfl, h.st, h.seats, h.sa.ext off_le, h.sb.ext off_le⟩
theorem LC.menu (h : LC K p tv wv xt n o ps gs sv bk ss es a b d ts D acc H) : Dp K H (.ref D) (.list (es.map edD)) := .lst (.of h.mD) h.me
end
theorem nb_nDs (ls : List (List Nat)) : nb (.tuple (ls.map nD)) = true := by
  have e : ∀ l : List Nat, nb (nD l) = true := fun l => by
    have := nb_is (l.map Int.ofNat)
    rw [List.map_map] at this
    exact this
  rw [nb]
  induction ls with
  | nil => rfl
  | cons l ls ih =>
    rw [List.map_cons, nbAll, ih, e]
    rfl
theorem shp_nDs (ls : List (List Nat)) : shp 2 (.tuple (ls.map nD)) := .tup fun d hd => by
  obtain ⟨l, _, rfl⟩ := List.mem_map.mp hd
  refine .tup fun d hd => ?_
  obtain ⟨k, _, rfl⟩ := List.mem_map.mp hd
  exact .int _ _
theorem nb_eds (es : List Ed) : nb (.list (es.map edD)) = true := by
  rw [nb]
  induction es with
  | nil => rfl
  | cons e es ih =>
    rw [List.map_cons, nbAll, ih, nb_edD]
    rfl
theorem webpre_ok {n o : Int} {ps : Gt} {gs : List Int} (h : WebPre n ps o gs) : (⟨n, ps, o, exits n gs⟩ : WD).Ok := by
  refine ⟨by have := h.n1; show 0 < n; omega, h.n2, h.lp, ?_, h.ip, h.io, fun g hg => mem_below.mp (List.mem_filter.mp hg).1⟩
  have := exits_len n gs
  have := h.n2
  show (exits n gs).length ≤ 60
  omega
def spLaw (K : PySem.W.Frag) : Sp := sp1 fun x H Q => ∃ a, ∃ ns : List Int, x = .ref a ∧ SqL K H a (ns.map V.int) ∧ ∀ H', Q (.bl true) H'
section
variable {P : Program} {w : World} {K : PySem.W.Frag} {mg : PySem.Str → Option Value} {base : Heap}
theorem sc_law : FnScope ["_law_script", "_law_pool_here", "_law_told", "_law_web_here", "_law_saves", "_law_backs", "_law_seats_here", "_law_state", "_law_task", "_law_menu_here", "_law_drawn", "_law_at", "_law_bound", "_law_way", "_law_handed"] ["_law_script"] (defScope s_law) := ⟨rfl, rfl, rfl, by decide +kernel, rfl, by decide +kernel, by decide +kernel⟩
theorem fn_law (T : Txt K mg) {fd : FuncData} (F : FunD K "law" "law" (defArgs s_law) (defBody s_law) (defScope s_law) [] [] (He.ga K "law") fd) : FnOk P w K mg base C8.CX0 13 (He.ga K "law") fd ["_law_script"] (spLaw K) := by
  refine fnN F sc_law len1 (fun cdv A outer s H vs Q E hr h => ?_)
  refine ⟨_, (pss_cons (ps_set (i := 1) sc_law.nd rfl (by first | exact Or.inl rfl | exact Or.inr rfl) (C8.pe_c (c_law_pool T) hr (by decide) rfl (pa_cons (pv 0) pa_nil)))
      (pss_cons (ps_set (i := 2) sc_law.nd rfl (by first | exact Or.inl rfl | exact Or.inr rfl) (C8.pe_c (c_law_web T) hr (by decide) rfl (pa_cons (pv 1) (pa_cons pe_int (pa_cons pe_int pa_nil)))))
      (pss_cons (ps_set (i := 3) sc_law.nd rfl (by first | exact Or.inl rfl | exact Or.inr rfl) (C8.pe_c (c_law_made T) hr (by decide) rfl (pa_cons (pv 2) pa_nil)))
      (pss_cons (ps_asg (C8.pe_c (c_law_prices T) hr (by decide) rfl (pa_cons (pv 1) (pa_cons (pv 2) pa_nil))) (pg_tup (by rfl) (pgs_cons (pg_name (i := 4) sc_law.nd rfl (by first | exact Or.inl rfl | exact Or.inr rfl)) (pgs_cons (pg_name (i := 5) sc_law.nd rfl (by first | exact Or.inl rfl | exact Or.inr rfl)) pgs_nil))))
      (pss_cons (ps_set (i := 6) sc_law.nd rfl (by first | exact Or.inl rfl | exact Or.inr rfl) (C8.pe_c (c_law_seats T) hr (by decide) rfl (pa_cons (pv 1) (pa_cons (pe_ix ix_tup (pv 2) pe_int (fun _ _ => rfl)) pa_nil))))
      (pss_cons (ps_set (i := 7) sc_law.nd rfl (by first | exact Or.inl rfl | exact Or.inr rfl) (pe_tup (pa_cons (pv 6) (pa_cons (pv 4) (pa_cons (pv 5) pa_nil)))))
      (pss_cons (ps_set (i := 8) sc_law.nd rfl (by first | exact Or.inl rfl | exact Or.inr rfl) (C8.pe_mk (mk_Task T) hr (by decide) rfl (pa_cons (pv 3) (pa_cons (pv 6) (pa_cons (C8.pe_mk (mk_Prices T) hr (by decide) rfl (pa_cons (pv 3) (pa_cons (pv 4) (pa_cons (pv 5) pa_nil)))) pa_nil)))))
      (pss_cons (ps_set (i := 9) sc_law.nd rfl (by first | exact Or.inl rfl | exact Or.inr rfl) (C8.pe_c (c_law_menu T) hr (by decide) rfl (pa_cons (pv 1) (pa_cons (pv 2) (pa_cons (pe_callTy (call_listD rfl) (by rfl) T.b_list (by decide +kernel) (pa_cons (pv 6) pa_nil)) pa_nil)))))
      (pss_cons (ps_setLc (i := 10) (own := [("_law_at", 11)]) (g := gName 11) (tt := _) rfl sc_law.nd rfl rfl (sw_true rfl rfl rfl (by decide +kernel)) (pi_range1 (by rfl) T.b_range (pa_cons (pe_callB call_len (by rfl) T.b_len (by decide +kernel) (pa_cons (pv 9) pa_nil)) pa_nil)) (blkOk_by (own := [("_law_at", 11)]) (N := ["_law_script", "_law_pool_here", "_law_told", "_law_web_here", "_law_saves", "_law_backs", "_law_seats_here", "_law_state", "_law_task", "_law_menu_here", "_law_drawn", "_law_at", "_law_bound", "_law_way", "_law_handed"]) (sc := defScope s_law) (by decide +kernel)) (fun _ _ _ _ _ => pg_name (i := 11) sc_law.nd rfl (by first | exact Or.inl rfl | exact Or.inr rfl)) (fun _ _ _ _ _ => pts_one (pt_cmpR op_eq (C8.pe_c (c_law_draw T) hr (by decide) rfl (pa_cons (pv 1) (pa_cons pe_int pa_nil))) pe_int (nomark _))) (fun _ _ _ _ _ => (pv 11)))
      (pss_cons (ps_set (i := 12) sc_law.nd rfl (by first | exact Or.inl rfl | exact Or.inr rfl) (C8.pe_c (c_law_behind T) hr (by decide) rfl (pa_cons (pv 2) (pa_cons (pv 7) (pa_cons (pv 9) (pa_cons (pv 10) pa_nil))))))
      (pss_cons (ps_set (i := 13) sc_law.nd rfl (by first | exact Or.inl rfl | exact Or.inr rfl) (C8.pe_c (c_law_draw T) hr (by decide) rfl (pa_cons (pv 1) (pa_cons pe_int pa_nil))))
      (C8.pss_cut (ps_if (pt_cmpR op_gt (pv 13) pe_int (nomark _)) (pss_one (ps_set (i := 12) sc_law.nd rfl (by first | exact Or.inl rfl | exact Or.inr rfl) (C8.pe_c (c_law_total T) hr (by decide) rfl (pa_cons (pv 2) (pa_cons (pv 6) (pa_cons (pe_tup (pa_cons (pv 4) (pa_cons (pv 5) pa_nil))) pa_nil))))))
      pss_nil)
      (C8.pss_cut (ps_if (PW.pt (pw_or (pt_cmpR op_isN (pv 12) pe_non (nomark _)) (pw_or1 (pt_cmpR op_eq (pv 13) pe_int (nomark _))))) (pss_one (ps_set (i := 12) sc_law.nd rfl (by first | exact Or.inl rfl | exact Or.inr rfl) (pe_op op_sub (C8.pe_c (c_law_draw T) hr (by decide) rfl (pa_cons (pv 1) (pa_cons pe_int pa_nil))) pe_int)))
      pss_nil)
      (pss_cons (ps_set (i := 12) sc_law.nd rfl (by first | exact Or.inl rfl | exact Or.inr rfl) (pe_op op_sub (pe_callTy call_int1 (by rfl) T.b_int (by decide +kernel) (pa_cons (pv 12) pa_nil)) (C8.pe_c (c_law_draw T) hr (by decide) rfl (pa_cons (pv 1) (pa_cons pe_int pa_nil)))))
      (pss_cons (ps_set (i := 14) sc_law.nd rfl (by first | exact Or.inl rfl | exact Or.inr rfl) (pe_callTy call_list_of (by rfl) T.b_list (by decide +kernel) (pa_cons (pv 9) pa_nil)))
      (pss_cons (ps_if (PW.pt (pw_or (pt_cmpR (op_neD hr.units) (C8.pe_c (c_mending T) hr (by decide) rfl (pa_cons (pv 8) (pa_cons (pv 14) (pa_cons (pv 12) pa_nil)))) (C8.pe_c (c_law_due T) hr (by decide) rfl (pa_cons (pv 2) (pa_cons (pv 7) (pa_cons (pv 9) (pa_cons (pv 12) pa_nil))))) (nomark _)) (pw_or1 (pt_cmpR (op_neD hr.units) (pv 14) (pv 9) (nomark _))))) (pss_one (ps_ret pe_bl))
      pss_nil)
      (pss_one (ps_ret (pe_and (C8.pe_c (c_law_same T) hr (by decide) rfl (pa_cons (pv 8) (pa_cons (pv 3) (pa_cons (pv 7) pa_nil)))) (pe_one (pe_c0S (c_law_known_answers T) hr (by decide) rfl))))))))))))))))))))), ?_⟩
  -- slots: 0:_law_script 1:_law_pool_here 2:_law_told 3:_law_web_here 4:_law_saves 5:_law_backs 6:_law_seats_here 7:_law_state 8:_law_task 9:_law_menu_here 10:_law_drawn 11:_law_at 12:_law_bound 13:_law_way 14:_law_handed
  obtain ⟨x, rfl, a0, ns, rfl, hs, q⟩ := h
  have lin : 2000 < sizeLine := by rw [sizeLine_eq]; omega
  refine ⟨_, rfl, _, rfl, a0, ns, rfl, hs, fun p H1 np x1 P1 => ?_⟩
  have l1 : Pl K p H1 H1 0 H1 := .of P1
  refine ⟨_, rfl, _, _, _, rfl, p, 0, H1, rfl, rfl, rfl, by omega, by omega, P1, fun tv n ps o gs H2 B2 P2 dt pre n4 lp lg => ?_⟩
  have l2 := l1.draw B2 P2
  have n1 := pre.n1
  refine ⟨_, rfl, _, rfl, n, ps, o, gs, dt.ext off_le, pre, fun wv H3 x3 hw => ?_⟩
  have l3 := l2.ext x3
  have dt3 := dt.ext (Ext.off x3)
  refine ⟨_, rfl, _, rfl, _, _, rfl, p, _, H1, n, ps, o, gs, rfl, by omega, by omega, l3.p, dt3, by omega, n4, lp, pre.ig, fun prv sv bk H4 B4 P4 dpr lsv lbk osv obk => ?_⟩
  have l4 := l3.draw B4 P4
  have hw4 := IsWeb.im hw (im_butL B4 l3.lst)
  have dt4 := dt3.ext (ext_but B4)
  obtain ⟨tm, ms, rfl, sm, am⟩ := dpr.tupI
  obtain ⟨u1, u2, rfl, e1, e2⟩ := DpAll.two am
  obtain ⟨a, y1, rfl, sa, al1⟩ := e1.lstI
  obtain ⟨b, y2, rfl, sb, al2⟩ := e2.lstI
  obtain rfl := al1.osI
  obtain rfl := al2.osI
  refine ⟨tm, _, rfl, sm.ext off_le, rfl, _, _, rfl, _, _, rfl, rfl, ?_⟩
  obtain ⟨tt, xs, rfl, stt, alt⟩ := id (dt4.ext off_le).tupI
  obtain ⟨v0, v1, v2, v3, rfl, d0, d1, d2, d3⟩ := DpAll.four alt
  obtain rfl := d0.intI
  refine ⟨_, rfl, _, rfl, tt, _, _, _, rfl, rfl, stt, rfl, _, _, rfl, p, _, H1, n, rfl, rfl, by omega, n4, by omega, by omega, l4.p, fun d ss H5 B5 P5 nd sd ls1 ls4 => ?_⟩
  have l5 := l4.draw B5 P5
  have hw5 := IsWeb.im hw4 (im_butL B5 l4.lst)
  have dt5 := dt4.ext (ext_but B5)
  have sa5 := sa.ext (ext_but B5)
  have sb5 := sb.ext (ext_but B5)
  refine ⟨_, rfl, _, rfl, _, rfl, by show 3 ≤ sizeLine; omega, fun ts hts => ?_⟩
  have x6 := Ext.upd hts (o := .tup [.ref d, .ref a, .ref b])
  have l6 := l5.ext x6
  have st6 : SqT K (upd H5 ts (.tup [.ref d, .ref a, .ref b])) ts [.ref d, .ref a, .ref b] := .of upd_same
  have hw6 := IsWeb.im hw5 (.of x6)
  have dt6 := dt5.ext (Ext.off x6)
  have sa6 := sa5.ext (Ext.off x6)
  have sb6 := sb5.ext (Ext.off x6)
  have sd6 := sd.but (.of x6) nd
  generalize upd H5 ts (.tup [.ref d, .ref a, .ref b]) = H6 at l6 st6 hw6 dt6 sa6 sb6 sd6 ⊢
  have wok := webpre_ok pre
  have lsv' : sv.length = (⟨n, ps, o, exits n gs⟩ : WD).G.length := lsv
  have lbk' : bk.length = (⟨n, ps, o, exits n gs⟩ : WD).G.length := lbk
  have sok : SsOk n ss := ⟨ls1, ls4, sd.nd, sd.gn, sd.ip, fun s hs => by have := sd.lu s hs; omega⟩
  refine ⟨_, rfl, _, rfl, _, rfl, _, rfl, _, rfl, ?_⟩
  intro xq dq hxq hdq neq
  refine pr_mk1 (W := ⟨n, ps, o, exits n gs⟩) (sv := sv) (bk := bk) hxq hdq neq hw6 (.inl (sa6.ext off_le)) (.inl (sb6.ext off_le)) lsv' lbk' osv obk fun H7 x7 hpr => ?_
  intro xt dtk hxt hdt net
  have sin : SeatsIn K H7 d ss := by
    obtain ⟨F, h1, h2⟩ := sd6.at_
    exact ⟨F, x7 _ _ h1, fun s hs => (h2 s hs).imp fun a z => ⟨z.1, _, .l (.of (x7 _ _ z.2.2))⟩⟩
  refine task_mk1 (W := ⟨n, ps, o, exits n gs⟩) (ss := ss) hxt hdt net wok (IsWeb.im hw6 (.of x7)) sin sok hpr fun us H8 x8 tk seq uok => ?_
  have x68 := x7.trans x8
  have l8 := l6.ext x68
  have sd8 := sd6.but (.of x68) nd
  have dt8 := dt6.ext (Ext.off x68)
  obtain ⟨F, hd8, hF8⟩ := id sd8.at_
  refine ⟨_, rfl, _, rfl, _, rfl, d, _, rfl, .inl hd8, fun N hN => ?_⟩
  have eN : (dG (sk ss) F).map (fun kv => kV kv.1) = (ss.map Prod.fst).map V.str := by
    unfold dG sk
    rw [List.map_map, List.map_map, List.map_map]
    rfl
  rw [eN]
  have x9 := Ext.upd hN (o := .lst ((ss.map Prod.fst).map V.str))
  have l9 := l8.ext x9
  have nN := l8.nw hN
  have x69 := x68.trans x9
  have hNo : SqL K (Off p (upd H8 N (.lst ((ss.map Prod.fst).map V.str)))) N ((ss.map Prod.fst).map V.str) := .of (by rw [off_ne nN.ne, upd_same])
  have nne : ss.map Prod.fst ≠ [] := fun z => by
    rw [List.map_eq_nil_iff.mp z] at ls1
    cases ls1
  refine ⟨_, _, _, rfl, p, _, H1, n, ps, o, gs, N, ss.map Prod.fst, rfl, l9.p, by omega, by omega, dt8.ext (Ext.off x9), rfl, hNo, nne, by rw [List.length_map]; exact ls4, fun m hm => ?_, n1, n4, lp, pre.ig, fun D acc es H10 B10 P10 nwD hD me nde oks l6e => ?_⟩
  · obtain ⟨s, hs, rfl⟩ := List.mem_map.mp hm
    exact (sd.gn s hs).strOk
  have l10 := l9.draw B10 P10
  have lc9 : ∀ H', (∀ a u, a ≠ p → upd H8 N (.lst ((ss.map Prod.fst).map V.str)) a = some u → H' a = some u) → H' D = some (.lst acc) → DpAll K H' acc (es.map edD) → LC K p (.ref tt) wv (.ref xt) n o ps gs sv bk ss es a b d ts D acc H' := fun H' B hD me =>
    ⟨(dt6.ext (Ext.off x69)).ext (ext_but B), IsWeb.im (IsWeb.im hw6 (.of x69)) (im_butL B l9.lst), (sa6.ext (Ext.off x69)).ext (ext_but B), (sb6.ext (Ext.off x69)).ext (ext_but B), (sd8.but (.of x9) nd).but B nd, nd, (st6.ext x69).tu (tu_butL B l9.lst), ⟨us, task_butL B l9.lst (tk.ext x9), seq, uok⟩, hD, nwD.ne, me⟩
  have c10 := lc9 H10 B10 hD me
  clear lc9
  have lae : acc.length = es.length := by rw [me.len, List.length_map]
  refine ⟨_, rfl, _, _, rfl, .inl ⟨_, .of c10.mD, rfl⟩, _, rfl, by omega, by omega, fun L hL => ?_⟩
  rw [show ((acc.length : Nat) : Int).toNat = es.length by omega]
  refine lcP_range (c := 1) False (fun k : Nat => V.int (k : Nat)) (fun k => k < es.length) l10 hL (by omega) ?_ ?_
  · intro i H' Nx hi bb pl drop keep
    refine ⟨rfl, _, rfl, _, _, rfl, p, _, _, H1, rfl, rfl, by omega, by omega, by omega, pl, fun e H8 e0 e1 B8 P8 => ?_⟩
    refine ⟨rfl, decide (e = 1), congrArg V.bl (decide_eq_decide.mpr (by simp)), ?_⟩
    by_cases c : e = 1
    · rw [decide_eq_true c]
      refine iteT ⟨_, rfl, ?_⟩
      rw [show (0 + (i : Int)) = ((i : Nat) : Int) by omega]
      exact keep i H8 hi B8 (P8.mono (by omega))
    · rw [decide_eq_false c]
      exact iteF (drop id H8 B8 (P8.mono (by omega)))
  · intro H11 dr B11 P11 hL11 mdr ldr _
    have l11 := l10.draw B11 P11
    have c11 := c10.but B11 l10.lst
    have lG : (gatesW ps o (exits n gs)).length ≤ 20 := by
      rw [gatesW_len]
      have := exits_len n gs
      omega
    have okl : ∀ e ∈ es, OkL n (gatesW ps o (exits n gs)).length ((⟨ss, sv, bk⟩ : St).ss.map Prod.fst) e := fun e he => (oks e he).1
    have stok : StOk (gatesW ps o (exits n gs)).length 4 ⟨ss, sv, bk⟩ := ⟨sd.nd, ls4, sd.lu, lsv, lbk⟩
    refine ⟨_, rfl, _, rfl, _, rfl, _, rfl, _, _, _, _, rfl, n, ps, o, gs, ⟨ss, sv, bk⟩, es, dr, L, (gatesW ps o (exits n gs)).length, 4, c11.told.ext off_le, c11.stl, c11.menu, rfl, .inl (.of hL11), okl, mdr, stok, by omega, rfl, by omega, by omega, n4, by omega, pre.ig, fun H12 x12 => ?_⟩
    have l12 := l11.ext x12
    have c12 := c11.but (.of x12) l11.lst
    generalize totL ⟨n, ps, o, exits n gs⟩ (runE es dr ⟨ss, sv, bk⟩).ss (runE es dr ⟨ss, sv, bk⟩).sv (runE es dr ⟨ss, sv, bk⟩).bk = ob0
    refine ⟨_, rfl, _, _, rfl, p, _, _, H1, rfl, rfl, by omega, by omega, by omega, l12.p, fun wy H13 w0 w1 B13 P13 => ?_⟩
    have l13 := l12.draw B13 P13
    have c13 := c12.but B13 l12.lst
    refine ⟨fun σ' H' => ∃ ob, σ' = [some (.ref a0), some (.ref p), some (.ref tt), some wv, some (.ref a), some (.ref b), some (.ref d), some (.ref ts), some (.ref xt), some (.ref D), some (.ref L), none, some (oV ob), some (.int wy), none] ∧ Pl K p H1 H1 3000 H' ∧ LC K p (.ref tt) wv (.ref xt) n o ps gs sv bk ss es a b d ts D acc H', ?_, ?_⟩
    · refine ⟨_, rfl, _, _, rfl, rfl, _, rfl, ite2 (fun hc => ?_) fun hc => ⟨ob0, rfl, l13.mono (by omega), c13⟩⟩
      refine ⟨_, rfl, _, rfl, _, rfl, _, rfl, by show 2 ≤ sizeLine; omega, fun w' hw' => ?_⟩
      have xw := Ext.upd hw' (o := .tup [.ref a, .ref b])
      have l14 := l13.ext xw
      have c14 := c13.but (.of xw) l13.lst
      refine ⟨_, _, _, rfl, n, ps, o, gs, d, ss, sv, bk, c14.told.ext off_le, rfl, c14.seats, .tup (.of upd_same) (.cons (.lst (c14.sa.ext off_le) (.os _)) (.cons (.lst (c14.sb.ext off_le) (.os _)) .nil)), by omega, n4, by omega, pre.ig, lsv, lbk, fun H' x => ⟨_, rfl, (l14.ext x).mono (by omega), c14.but (.of x) l14.lst⟩⟩
    · rintro σ' H14 ⟨ob, rfl, l14, c14⟩
      refine ⟨fun σ' H' => ∃ bd : Int, σ' = [some (.ref a0), some (.ref p), some (.ref tt), some wv, some (.ref a), some (.ref b), some (.ref d), some (.ref ts), some (.ref xt), some (.ref D), some (.ref L), none, some (.int bd), some (.int wy), none] ∧ Pl K p H1 H1 3010 H' ∧ LC K p (.ref tt) wv (.ref xt) n o ps gs sv bk ss es a b d ts D acc H', ?_, ?_⟩
      · cases ob with
        | none =>
          refine ⟨_, rfl, rfl, true, rfl, iteT (iteT ⟨_, rfl, _, _, rfl, p, _, _, H1, rfl, rfl, by omega, by omega, by omega, l14.p, fun e H15 e0 e1 B15 P15 => ⟨_, _, rfl, rfl, _, rfl, (l14.draw B15 P15).mono (by omega), c14.but B15 l14.lst⟩⟩)⟩
        | some i =>
          refine ⟨_, rfl, rfl, false, rfl, iteF ⟨_, rfl, rfl, decide (wy = 3), congrArg V.bl (decide_eq_decide.mpr (by simp)), ?_⟩⟩
          by_cases c : wy = 3
          · rw [decide_eq_true c]
            exact iteT ⟨_, rfl, _, _, rfl, p, _, _, H1, rfl, rfl, by omega, by omega, by omega, l14.p, fun e H15 e0 e1 B15 P15 => ⟨_, _, rfl, rfl, _, rfl, (l14.draw B15 P15).mono (by omega), c14.but B15 l14.lst⟩⟩
          · rw [decide_eq_false c]
            exact iteF ⟨i, rfl, l14.mono (by omega), c14⟩
      · rintro σ' H15 ⟨bd0, rfl, l15, c15⟩
        refine ⟨_, rfl, .inl ⟨_, rfl, _, rfl, _, _, rfl, p, _, _, H1, rfl, rfl, by omega, by omega, by omega, l15.p, fun e H16 e0 e1 B16 P16 => ⟨_, _, rfl, rfl, ?_⟩⟩⟩
        have c16 := c15.but B16 l15.lst
        have l16 := l15.draw B16 P16
        refine ⟨_, rfl, D, acc, rfl, .inl (.of c16.mD), fun h hh => ?_⟩
        have x17 := Ext.upd hh (o := .lst acc)
        have c17 := c16.but (.of x17) l16.lst
        have hh17 : upd H16 h (.lst acc) h = some (.lst acc) := upd_same
        have l17 := l16.ext x17
        generalize upd H16 h (.lst acc) = H17 at c17 hh17 l17 ⊢
        obtain ⟨us7, tk7, seq7, uok7⟩ := c17.tk
        have okE : ∀ e ∈ es, OkE ⟨n, ps, o, exits n gs⟩ ((⟨ss, sv, bk⟩ : St).ss.map Prod.fst) e ∧ OkS e := fun e he => ⟨⟨(oks e he).1.at_, (oks e he).1.pr⟩, (oks e he).2⟩
        refine ⟨_, rfl, _, rfl, _, rfl, _, _, _, rfl, ⟨n, ps, o, exits n gs⟩, ⟨ss, sv, bk⟩, es, h, acc, _, tfL ⟨n, ps, o, exits n gs⟩ es ⟨ss, sv, bk⟩, ⟨wok, ⟨lsv', lbk', osv, obk⟩, us7, tk7, seq7, uok7⟩, rfl, .inl (.of hh17), c17.me, rfl, okE, l6e, nde, tfs_ok wok es _, fun t1 H18 x18 dt1 => ?_⟩
        have c18 := c17.but (.of x18) l17.lst
        have l18 := l17.ext x18
        refine ⟨_, rfl, _, rfl, _, rfl, _, rfl, _, _, _, _, rfl, n, ps, o, gs, ⟨ss, sv, bk⟩, es, _, (gatesW ps o (exits n gs)).length, 4, c18.told.ext off_le, c18.stl, c18.menu, rfl, l6e, okl, stok, by omega, rfl, by omega, by omega, n4, by omega, pre.ig, fun t2 H19 x19 dt2 => ?_⟩
        have c19 := c18.but (.of x19) l18.lst
        have l19 := l18.ext x19
        have hh19 := x19 _ _ (x18 _ _ hh17)
        refine ⟨_, _, dt1.ext x19, dt2, (shp_nDs _).ed (by decide), (shp_nDs _).ed (by decide), false, congrArg V.bl (by rw [eqv_self (nb_nDs _)]; rfl), iteF ?_⟩
        have dh : Dp K H19 (.ref h) (.list (es.map edD)) := .lst (.of hh19) c19.me
        have oss : ∀ e ∈ es, OkS e := fun e he => (oks e he).2
        refine ⟨_, rfl, _, rfl, _, _, dh, c19.menu, (shp_eds es oss).ed (by decide), (shp_eds es oss).ed (by decide), false, congrArg V.bl (by rw [eqv_self (nb_eds _)]; rfl), iteF ?_⟩
        obtain ⟨us9, tk9, seq9, uok9⟩ := c19.tk
        refine ⟨_, rfl, _, rfl, _, rfl, _, _, _, rfl, ⟨n, ps, o, exits n gs⟩, ⟨ss, sv, bk⟩, us9, tk9, seq9, uok9, by show n ≤ 24; omega, c19.web, c19.stl, fun H20 x20 => ⟨true, rfl, iteT ⟨rfl, fun H21 x21 => q _⟩⟩⟩
end
end Sv
namespace Sv
open PySem PySem.Spec PyProof.Rows L2
theorem facts {P : Program} {w : World} {K : PySem.W.Frag} {h : Heap} {mg : PySem.Str → Option Value} {f : Addr} (X : K.In h) (G : h.Ns mainGlobals mg) (hfa : mg ("law" : PySem.Str) = some (.ref f)) (c : SaysM K) :
    ∃ fd : FuncData, (∀ (s : Shared) (v : Value), BindsTo s fd ⟨[v], []⟩ [("_law_script", v)]) ∧ ∀ base : Heap, K.In base → base.Ns mainGlobals mg → FnOk P w K mg base C8.CX0 13 f fd ["_law_script"] (spLaw K) := by
  have T := txt_of X G c
  obtain ⟨fd, F⟩ := T.f_law
  have e := hfa.symm.trans T.g_law
  cases e
  have b := FunD.bindsA (ps := ["_law_script"]) F fun _ _ _ _ _ _ us hl => match us, hl with | [_], _ => rfl
  exact ⟨fd, fun s v => b s [v] rfl, fun base _ _ => fn_law T F⟩
end Sv
open PySem PySem.W PySem.Calls PyProof.Rows
theorem PySem.Challenge.cw_savedseats_k77_whole_sets_that_mend_holds : PySem.Challenge.rw_savedseats_k77_whole_sets_that_mend.Holds := by
  w_on; o_law
  refine HandSHeadRun.head_any (r := OpenLaw.row PySem.Challenge.rw_savedseats_k77_whole_sets_that_mend) (q := view (OpenLaw.row PySem.Challenge.rw_savedseats_k77_whole_sets_that_mend).prog [98]) (H := Sv.hk) (ob := Sv.ob) (M := 40000) (loose := Sv.loose) (d := HandSHeadRun.topDef (OpenLaw.row PySem.Challenge.rw_savedseats_k77_whole_sets_that_mend).prog 98) (kwd := []) Sv.ob_eq
    (by kernel_rfl) (fun s => by kernel_rfl) Sv.run (by kernel_rfl) (by kernel_rfl) (by kernel_rfl) (by rfl) (by first | assumption | decide +kernel) (by decide +kernel) ⟨rfl, rfl, rfl, rfl, rfl, by decide +kernel⟩ ?hw ?hc
  case hw => w_witness2
  case hc =>
    refine L2.walk_ofE (l := PySem.Challenge.rw_savedseats_k77_whole_sets_that_mend) (n := 63) (k := 13) (x := "_law_script") (CX := C8.CX0) rfl (by decide) (by kernel_rfl) ⟨rfl, by decide, by decide⟩ ?F (fun _ _ _ _ z => z)
    intro w mg fa h Y G hmg0
    obtain ⟨K, KX, c⟩ := Y
    have hmg : mg ("law" : PySem.Str) = some (.ref fa) := by
      have e : (HandSHeadRun.topDef (OpenLaw.row PySem.Challenge.rw_savedseats_k77_whole_sets_that_mend).prog 98).name = ("law" : PySem.Str) := by kernel_rfl
      rw [← e]
      exact hmg0
    obtain ⟨fd, hb, hF⟩ := Sv.facts (P := (PySem.Challenge.rw_savedseats_k77_whole_sets_that_mend).prog) (w := w) KX G hmg c
    exact ⟨K, fd, Sv.spLaw K, KX, hb, fun H a ns hl _ hS => ⟨_, rfl, a, ns, rfl, hS, fun _ => rfl⟩, hF⟩
