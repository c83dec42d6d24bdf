import PyProof.Rows.All
import Wide.All
import OpenK.AllK
import Wide.FinOn
import KE.KStateDown
import Lean
import HandS.ForMost
import HandS.WordsExc
import HandS.Defaults
import HandS.Head0
import HandS.Head1
import HandS.Head2
import HandS.HeadEnd
import HandS.HeadHook1
import HandS.HeadHook2
import HandS.HeadHook3
import HandS.HeadHook4
import HandS.HeadWalk
import PySem.Challenge.RW_panethread_k66_whole_no_changes_pay_less
import HandS.Flow
import HandS.Style
import HandS.SetKeys
import HandS.IsInst
import HandS.Conv
import HandS.Sort
import HandS.SortRule
import HandS.CallRecv
import HandS.Walk
import HandS.EndTab
import HandS.Lambda
import PyProof.MaxThree
import PyProof.Draws
import KE.GoesMore
import HandS.Steps
import HandS.Nested
set_option Elab.async false
set_option linter.all false
set_option maxRecDepth 100000
set_option maxHeartbeats 0
namespace Pk
open PySem PySem.Spec
open PyProof.Rows L2
def top (i : Nat) : Stmt := PySem.Challenge.pw_panethread_k66_whole_no_changes_pay_less.main.body.getD i (.Pass ⟨0, 0, 0, 0⟩)
abbrev s_is_whole : Stmt := top 16
abbrev s_is_within : Stmt := top 17
abbrev s_is_letter : Stmt := top 18
abbrev s_is_row : Stmt := top 19
abbrev s_is_plain : Stmt := top 20
abbrev s_need_row : Stmt := top 21
abbrev s_need_rows : Stmt := top 22
abbrev s_need_plain : Stmt := top 23
abbrev s_need_span : Stmt := top 24
abbrev s_parted : Stmt := top 25
abbrev s_places_of : Stmt := top 26
abbrev s_led : Stmt := top 28
abbrev s_Board_init : Stmt := inClass (top 29) 0
abbrev s_Board_lines : Stmt := inClass (top 29) 3
abbrev s_is_turning : Stmt := top 32
abbrev s_need_turning : Stmt := top 33
abbrev s_need_place : Stmt := top 34
abbrev s_opposite : Stmt := top 35
abbrev s_mixed : Stmt := top 37
abbrev s_floors_of : Stmt := top 38
abbrev s_lesser : Stmt := top 39
abbrev s_Tally_init : Stmt := inClass (top 40) 0
abbrev s_Tally_from_on : Stmt := inClass (top 40) 1
abbrev s_Tally_below : Stmt := inClass (top 40) 2
abbrev s_need_window : Stmt := top 42
abbrev s_Asks_init : Stmt := inClass (top 43) 0
abbrev s_Asks_window : Stmt := inClass (top 43) 1
abbrev s_Asks_stretch : Stmt := inClass (top 43) 2
abbrev s_Asks_gains : Stmt := inClass (top 43) 6
abbrev s_Asks_table : Stmt := inClass (top 43) 8
abbrev s_asks_of : Stmt := top 44
abbrev s_is_change : Stmt := top 48
abbrev s_is_changes : Stmt := top 49
abbrev s_need_changes : Stmt := top 50
abbrev s_old_of : Stmt := top 51
abbrev s_new_of : Stmt := top 52
abbrev s_old_row : Stmt := top 53
abbrev s_new_row : Stmt := top 54
abbrev s_come_to : Stmt := top 55
abbrev s_paid : Stmt := top 56
abbrev s_done : Stmt := top 57
abbrev s_back : Stmt := top 58
abbrev s_after : Stmt := top 59
abbrev s_lengths : Stmt := top 61
abbrev s_longest : Stmt := top 62
abbrev s_is_pair : Stmt := top 63
abbrev s_pairs_of : Stmt := top 65
abbrev s_is_heap : Stmt := top 66
abbrev s_are_heaps : Stmt := top 67
abbrev s_need_plains : Stmt := top 69
abbrev s_cost : Stmt := top 70
abbrev s_Costs_init : Stmt := inClass (top 71) 0
abbrev s_Costs_of : Stmt := inClass (top 71) 3
abbrev s_cost_table : Stmt := top 72
abbrev s_changes_of : Stmt := top 73
abbrev s_shows_cost : Stmt := top 74
abbrev s_law_cell_at : Stmt := top 76
abbrev s_law_great : Stmt := top 77
abbrev s_law_letter : Stmt := top 78
abbrev s_law_row : Stmt := top 79
abbrev s_law_list : Stmt := top 80
abbrev s_law_new : Stmt := top 81
abbrev s_law_old : Stmt := top 82
abbrev s_law_pays : Stmt := top 83
abbrev s_law_parted : Stmt := top 84
abbrev s_law_heaps : Stmt := top 85
abbrev s_law_part_one : Stmt := top 86
abbrev s_law_leads : Stmt := top 87
abbrev s_law_shown : Stmt := top 88
abbrev s_law_both_ways : Stmt := top 89
abbrev s_law : Stmt := top 90
def d_is_whole : He.DefD := ⟨("is_whole", none), "is_whole", "is_whole", defArgs s_is_whole, defBody s_is_whole, defScope s_is_whole, [], []⟩
def d_is_within : He.DefD := ⟨("is_within", none), "is_within", "is_within", defArgs s_is_within, defBody s_is_within, defScope s_is_within, [], []⟩
def d_is_letter : He.DefD := ⟨("is_letter", none), "is_letter", "is_letter", defArgs s_is_letter, defBody s_is_letter, defScope s_is_letter, [], []⟩
def d_is_row : He.DefD := ⟨("is_row", none), "is_row", "is_row", defArgs s_is_row, defBody s_is_row, defScope s_is_row, [], []⟩
def d_is_plain : He.DefD := ⟨("is_plain", none), "is_plain", "is_plain", defArgs s_is_plain, defBody s_is_plain, defScope s_is_plain, [], []⟩
def d_need_row : He.DefD := ⟨("need_row", none), "need_row", "need_row", defArgs s_need_row, defBody s_need_row, defScope s_need_row, [], []⟩
def d_need_rows : He.DefD := ⟨("need_rows", none), "need_rows", "need_rows", defArgs s_need_rows, defBody s_need_rows, defScope s_need_rows, [], []⟩
def d_need_plain : He.DefD := ⟨("need_plain", none), "need_plain", "need_plain", defArgs s_need_plain, defBody s_need_plain, defScope s_need_plain, [], []⟩
def d_need_span : He.DefD := ⟨("need_span", none), "need_span", "need_span", defArgs s_need_span, defBody s_need_span, defScope s_need_span, [], []⟩
def d_parted : He.DefD := ⟨("parted", none), "parted", "parted", defArgs s_parted, defBody s_parted, defScope s_parted, [], []⟩
def d_places_of : He.DefD := ⟨("places_of", none), "places_of", "places_of", defArgs s_places_of, defBody s_places_of, defScope s_places_of, [], []⟩
def d_led : He.DefD := ⟨("led", none), "led", "led", defArgs s_led, defBody s_led, defScope s_led, [], []⟩
def d_Board_init : He.DefD := ⟨("Board", some "__init__"), "__init__", "Board.__init__", defArgs s_Board_init, defBody s_Board_init, defScope s_Board_init, [], []⟩
def d_Board_lines : He.DefD := ⟨("Board", some "lines"), "lines", "Board.lines", defArgs s_Board_lines, defBody s_Board_lines, defScope s_Board_lines, [], []⟩
def d_is_turning : He.DefD := ⟨("is_turning", none), "is_turning", "is_turning", defArgs s_is_turning, defBody s_is_turning, defScope s_is_turning, [], []⟩
def d_need_turning : He.DefD := ⟨("need_turning", none), "need_turning", "need_turning", defArgs s_need_turning, defBody s_need_turning, defScope s_need_turning, [], []⟩
def d_need_place : He.DefD := ⟨("need_place", none), "need_place", "need_place", defArgs s_need_place, defBody s_need_place, defScope s_need_place, [], []⟩
def d_opposite : He.DefD := ⟨("opposite", none), "opposite", "opposite", defArgs s_opposite, defBody s_opposite, defScope s_opposite, [], []⟩
def d_mixed : He.DefD := ⟨("mixed", none), "mixed", "mixed", defArgs s_mixed, defBody s_mixed, defScope s_mixed, [], []⟩
def d_floors_of : He.DefD := ⟨("floors_of", none), "floors_of", "floors_of", defArgs s_floors_of, defBody s_floors_of, defScope s_floors_of, [], []⟩
def d_lesser : He.DefD := ⟨("lesser", none), "lesser", "lesser", defArgs s_lesser, defBody s_lesser, defScope s_lesser, [], []⟩
def d_Tally_init : He.DefD := ⟨("Tally", some "__init__"), "__init__", "Tally.__init__", defArgs s_Tally_init, defBody s_Tally_init, defScope s_Tally_init, [], []⟩
def d_Tally_from_on : He.DefD := ⟨("Tally", some "from_on"), "from_on", "Tally.from_on", defArgs s_Tally_from_on, defBody s_Tally_from_on, defScope s_Tally_from_on, [], []⟩
def d_Tally_below : He.DefD := ⟨("Tally", some "below"), "below", "Tally.below", defArgs s_Tally_below, defBody s_Tally_below, defScope s_Tally_below, [], []⟩
def d_need_window : He.DefD := ⟨("need_window", none), "need_window", "need_window", defArgs s_need_window, defBody s_need_window, defScope s_need_window, [], []⟩
def d_Asks_init : He.DefD := ⟨("Asks", some "__init__"), "__init__", "Asks.__init__", defArgs s_Asks_init, defBody s_Asks_init, defScope s_Asks_init, [], []⟩
def d_Asks_window : He.DefD := ⟨("Asks", some "window"), "window", "Asks.window", defArgs s_Asks_window, defBody s_Asks_window, defScope s_Asks_window, [], []⟩
def d_Asks_stretch : He.DefD := ⟨("Asks", some "stretch"), "stretch", "Asks.stretch", defArgs s_Asks_stretch, defBody s_Asks_stretch, defScope s_Asks_stretch, [], []⟩
def d_Asks_gains : He.DefD := ⟨("Asks", some "gains"), "gains", "Asks.gains", defArgs s_Asks_gains, defBody s_Asks_gains, defScope s_Asks_gains, [], []⟩
def d_Asks_table : He.DefD := ⟨("Asks", some "table"), "table", "Asks.table", defArgs s_Asks_table, defBody s_Asks_table, defScope s_Asks_table, [], []⟩
def d_asks_of : He.DefD := ⟨("asks_of", none), "asks_of", "asks_of", defArgs s_asks_of, defBody s_asks_of, defScope s_asks_of, [], []⟩
def d_is_change : He.DefD := ⟨("is_change", none), "is_change", "is_change", defArgs s_is_change, defBody s_is_change, defScope s_is_change, [], []⟩
def d_is_changes : He.DefD := ⟨("is_changes", none), "is_changes", "is_changes", defArgs s_is_changes, defBody s_is_changes, defScope s_is_changes, [], []⟩
def d_need_changes : He.DefD := ⟨("need_changes", none), "need_changes", "need_changes", defArgs s_need_changes, defBody s_need_changes, defScope s_need_changes, [], []⟩
def d_old_of : He.DefD := ⟨("old_of", none), "old_of", "old_of", defArgs s_old_of, defBody s_old_of, defScope s_old_of, [], []⟩
def d_new_of : He.DefD := ⟨("new_of", none), "new_of", "new_of", defArgs s_new_of, defBody s_new_of, defScope s_new_of, [], []⟩
def d_old_row : He.DefD := ⟨("old_row", none), "old_row", "old_row", defArgs s_old_row, defBody s_old_row, defScope s_old_row, [], []⟩
def d_new_row : He.DefD := ⟨("new_row", none), "new_row", "new_row", defArgs s_new_row, defBody s_new_row, defScope s_new_row, [], []⟩
def d_come_to : He.DefD := ⟨("come_to", none), "come_to", "come_to", defArgs s_come_to, defBody s_come_to, defScope s_come_to, [], []⟩
def d_paid : He.DefD := ⟨("paid", none), "paid", "paid", defArgs s_paid, defBody s_paid, defScope s_paid, [], []⟩
def d_done : He.DefD := ⟨("done", none), "done", "done", defArgs s_done, defBody s_done, defScope s_done, [], []⟩
def d_back : He.DefD := ⟨("back", none), "back", "back", defArgs s_back, defBody s_back, defScope s_back, [], []⟩
def d_after : He.DefD := ⟨("after", none), "after", "after", defArgs s_after, defBody s_after, defScope s_after, [], []⟩
def d_lengths : He.DefD := ⟨("lengths", none), "lengths", "lengths", defArgs s_lengths, defBody s_lengths, defScope s_lengths, [], []⟩
def d_longest : He.DefD := ⟨("longest", none), "longest", "longest", defArgs s_longest, defBody s_longest, defScope s_longest, [], []⟩
def d_is_pair : He.DefD := ⟨("is_pair", none), "is_pair", "is_pair", defArgs s_is_pair, defBody s_is_pair, defScope s_is_pair, [], []⟩
def d_pairs_of : He.DefD := ⟨("pairs_of", none), "pairs_of", "pairs_of", defArgs s_pairs_of, defBody s_pairs_of, defScope s_pairs_of, [], []⟩
def d_is_heap : He.DefD := ⟨("is_heap", none), "is_heap", "is_heap", defArgs s_is_heap, defBody s_is_heap, defScope s_is_heap, [], []⟩
def d_are_heaps : He.DefD := ⟨("are_heaps", none), "are_heaps", "are_heaps", defArgs s_are_heaps, defBody s_are_heaps, defScope s_are_heaps, [], []⟩
def d_need_plains : He.DefD := ⟨("need_plains", none), "need_plains", "need_plains", defArgs s_need_plains, defBody s_need_plains, defScope s_need_plains, [], []⟩
def d_cost : He.DefD := ⟨("cost", none), "cost", "cost", defArgs s_cost, defBody s_cost, defScope s_cost, [], []⟩
def d_Costs_init : He.DefD := ⟨("Costs", some "__init__"), "__init__", "Costs.__init__", defArgs s_Costs_init, defBody s_Costs_init, defScope s_Costs_init, [], []⟩
def d_Costs_of : He.DefD := ⟨("Costs", some "of"), "of", "Costs.of", defArgs s_Costs_of, defBody s_Costs_of, defScope s_Costs_of, [], []⟩
def d_cost_table : He.DefD := ⟨("cost_table", none), "cost_table", "cost_table", defArgs s_cost_table, defBody s_cost_table, defScope s_cost_table, [], []⟩
def d_changes_of : He.DefD := ⟨("changes_of", none), "changes_of", "changes_of", defArgs s_changes_of, defBody s_changes_of, defScope s_changes_of, [], []⟩
def d_shows_cost : He.DefD := ⟨("shows_cost", none), "shows_cost", "shows_cost", defArgs s_shows_cost, defBody s_shows_cost, defScope s_shows_cost, [], []⟩
def d_law_cell_at : He.DefD := ⟨("_law_cell_at", none), "_law_cell_at", "_law_cell_at", defArgs s_law_cell_at, defBody s_law_cell_at, defScope s_law_cell_at, [], []⟩
def d_law_great : He.DefD := ⟨("_law_great", none), "_law_great", "_law_great", defArgs s_law_great, defBody s_law_great, defScope s_law_great, [], []⟩
def d_law_letter : He.DefD := ⟨("_law_letter", none), "_law_letter", "_law_letter", defArgs s_law_letter, defBody s_law_letter, defScope s_law_letter, [], []⟩
def d_law_row : He.DefD := ⟨("_law_row", none), "_law_row", "_law_row", defArgs s_law_row, defBody s_law_row, defScope s_law_row, [], []⟩
def d_law_list : He.DefD := ⟨("_law_list", none), "_law_list", "_law_list", defArgs s_law_list, defBody s_law_list, defScope s_law_list, [], []⟩
def d_law_new : He.DefD := ⟨("_law_new", none), "_law_new", "_law_new", defArgs s_law_new, defBody s_law_new, defScope s_law_new, [], []⟩
def d_law_old : He.DefD := ⟨("_law_old", none), "_law_old", "_law_old", defArgs s_law_old, defBody s_law_old, defScope s_law_old, [], []⟩
def d_law_pays : He.DefD := ⟨("_law_pays", none), "_law_pays", "_law_pays", defArgs s_law_pays, defBody s_law_pays, defScope s_law_pays, [], []⟩
def d_law_parted : He.DefD := ⟨("_law_parted", none), "_law_parted", "_law_parted", defArgs s_law_parted, defBody s_law_parted, defScope s_law_parted, [], []⟩
def d_law_heaps : He.DefD := ⟨("_law_heaps", none), "_law_heaps", "_law_heaps", defArgs s_law_heaps, defBody s_law_heaps, defScope s_law_heaps, [], []⟩
def d_law_part_one : He.DefD := ⟨("_law_part_one", none), "_law_part_one", "_law_part_one", defArgs s_law_part_one, defBody s_law_part_one, defScope s_law_part_one, [], []⟩
def d_law_leads : He.DefD := ⟨("_law_leads", none), "_law_leads", "_law_leads", defArgs s_law_leads, defBody s_law_leads, defScope s_law_leads, [], []⟩
def d_law_shown : He.DefD := ⟨("_law_shown", none), "_law_shown", "_law_shown", defArgs s_law_shown, defBody s_law_shown, defScope s_law_shown, [], []⟩
def d_law_both_ways : He.DefD := ⟨("_law_both_ways", none), "_law_both_ways", "_law_both_ways", defArgs s_law_both_ways, defBody s_law_both_ways, defScope s_law_both_ways, [], []⟩
def d_law : He.DefD := ⟨("law", none), "law", "law", defArgs s_law, defBody s_law, defScope s_law, [], []⟩
def fn0 : List He.DefD := [d_is_whole, d_is_within, d_is_letter, d_is_row, d_is_plain, d_need_row, d_need_rows, d_need_plain, d_need_span, d_parted, d_places_of, d_led, d_Board_init, d_Board_lines, d_is_turning, d_need_turning, d_need_place, d_opposite, d_mixed, d_floors_of, d_lesser, d_Tally_init, d_Tally_from_on, d_Tally_below]
def fn1 : List He.DefD := [d_need_window, d_Asks_init, d_Asks_window, d_Asks_stretch, d_Asks_gains, d_Asks_table, d_asks_of, d_is_change, d_is_changes, d_need_changes, d_old_of, d_new_of, d_old_row, d_new_row, d_come_to, d_paid, d_done, d_back, d_after, d_lengths, d_longest, d_is_pair, d_pairs_of, d_is_heap]
def fn2 : List He.DefD := [d_are_heaps, d_need_plains, d_cost, d_Costs_init, d_Costs_of, d_cost_table, d_changes_of, d_shows_cost, d_law_cell_at, d_law_great, d_law_letter, d_law_row, d_law_list, d_law_new, d_law_old, d_law_pays, d_law_parted, d_law_heaps, d_law_part_one, d_law_leads, d_law_shown, d_law_both_ways, d_law]
def fn : List He.DefD := fn0 ++ (fn1 ++ (fn2))
def fa0 : List He.Fa := [.glo "Asks", .glo "Board", .glo "Costs", .glo "Tally", .glo "_law_both_ways", .glo "_law_cell_at", .glo "_law_great", .glo "_law_heaps", .glo "_law_leads", .glo "_law_letter", .glo "_law_list", .glo "_law_new", .glo "_law_old", .glo "_law_part_one", .glo "_law_parted", .glo "_law_pays", .glo "_law_row", .glo "_law_shown", .glo "after", .glo "are_heaps", .glo "asks_of", .glo "back", .glo "changes_of", .glo "come_to"]
def fa1 : List He.Fa := [.glo "cost", .glo "cost_table", .glo "done", .glo "floors_of", .glo "is_change", .glo "is_changes", .glo "is_heap", .glo "is_letter", .glo "is_pair", .glo "is_plain", .glo "is_row", .glo "is_turning", .glo "is_whole", .glo "is_within", .glo "led", .glo "lengths", .glo "lesser", .glo "longest", .glo "mixed", .glo "need_changes", .glo "need_place", .glo "need_plain", .glo "need_plains", .glo "need_row"]
def fa2 : List He.Fa := [.glo "need_rows", .glo "need_span", .glo "need_turning", .glo "need_window", .glo "new_of", .glo "new_row", .glo "old_of", .glo "old_row", .glo "opposite", .glo "paid", .glo "pairs_of", .glo "parted", .glo "places_of", .glo "shows_cost", .glo "law", .glo "SIZES", .free "abs", .free "all", .free "bool", .free "enumerate", .free "int", .free "isinstance", .free "len", .free "list"]
def fa3 : List He.Fa := [.free "max", .free "min", .free "ord", .free "range", .free "sorted", .free "str", .free "tuple", .free "zip", .str "LETTERS" "abcdefghijklmnopqrstuvwxyz", .int "MOST_SIGNS" 48, .int "MOST_LETTERS" 24, .int "MOST_LINES" 96, .int "MOST_CHANGES" 48, .cls "Board", .mkr "Board", .noat "Board" "left_row", .noat "Board" "upper_row", .noat "Board" "meetings", .noat "Board" "signs", .noat "Board" "goals", .meth "Board" "lines", .cls "Tally", .mkr "Tally", .noat "Tally" "many"]
def fa4 : List He.Fa := [.noat "Tally" "floors", .meth "Tally" "from_on", .meth "Tally" "below", .cls "Asks", .mkr "Asks", .noat "Asks" "tall", .noat "Asks" "wide", .noat "Asks" "tally", .noat "Asks" "goals", .noat "Asks" "starts", .meth "Asks" "window", .meth "Asks" "stretch", .meth "Asks" "gains", .meth "Asks" "table", .cls "Costs", .mkr "Costs", .noat "Costs" "turned_row", .noat "Costs" "goal_row", .noat "Costs" "wide", .noat "Costs" "costs", .meth "Costs" "of"]
def fa : List He.Fa := fa0 ++ (fa1 ++ (fa2 ++ (fa3 ++ (fa4))))
def nm0 : List Str := ["_wall", "PaneError", "NoRow", "NoPlain", "NoPlace", "NoSpan", "NoTurning", "NoWindow", "Unlike", "TooLong", "NoChanges", "LETTERS", "MOST_SIGNS", "MOST_LETTERS", "is_whole", "is_within", "is_letter", "is_row", "is_plain", "need_row", "need_rows", "need_plain", "need_span", "parted"]
def nm1 : List Str := ["places_of", "led", "Board", "MOST_LINES", "is_turning", "need_turning", "need_place", "opposite", "mixed", "floors_of", "lesser", "Tally", "need_window", "Asks", "asks_of", "MOST_CHANGES", "SIZES", "is_change", "is_changes", "need_changes", "old_of", "new_of", "old_row", "new_row"]
def nm2 : List Str := ["come_to", "paid", "done", "back", "after", "lengths", "longest", "is_pair", "pairs_of", "is_heap", "are_heaps", "need_plains", "cost", "Costs", "cost_table", "changes_of", "shows_cost", "_law_cell_at", "_law_great", "_law_letter", "_law_row", "_law_list", "_law_new", "_law_old"]
def nm3 : List Str := ["_law_pays", "_law_parted", "_law_heaps", "_law_part_one", "_law_leads", "_law_shown", "_law_both_ways"]
def nms : List Str := nm0 ++ (nm1 ++ (nm2 ++ (nm3)))
def ts : List He.Tab := [((fun K => He.ga K "SIZES"), ["keep", "change", "out", "in"])]
def tf : List He.Defn := [("Board", some "__init__")]
def ex : PySem.W.Frag → Bool := fun K => He.valsB K (He.ga K "SIZES") [("keep", .int 2), ("change", .int 3), ("out", .int 2), ("in", .int 2)]
abbrev R : PySem.W.OpenRow := PySem.W.OpenLaw.row PySem.Challenge.rw_panethread_k66_whole_no_changes_pay_less
abbrev hk : PySem.W.Hook := He.hookX 4 fa fn ts tf ex
def ob (s : PySem.W.SharedT) : He.AlX := He.obsX 4 fa fn ts tf ex (HandSHeadRun.getT s)
theorem ob_eq (s : PySem.W.SharedT) : ob s = hk.obs s.abs := He.obsX_eq (HandSHeadRun.getT_eq s)
end Pk
namespace Pk
open PySem PySem.Spec
open PyProof.Rows L2
/-! ### the head's run: two looks at it, at each side of the world's row -/
abbrev yes : PySem.W.Frag → Bool := fun _ => true
abbrev RunX (fa : List He.Fa) (fn : List He.DefD) (ts : List He.Tab) (tf : List He.Defn) (ex : PySem.W.Frag → Bool) (w : World) : Prop := HandSHeadRun.RunEq R (PySem.W.view R.prog [90]) (He.hookX 4 fa fn ts tf ex) (fun s => He.obsX 4 fa fn ts tf ex (HandSHeadRun.getT s)) 9000 nms w
theorem ra0 (w : World) : RunX fa [] [] [] yes (w.withFollow "special-get-raises" false) := by
  intro os
  kernel_rfl
theorem ra1 (w : World) : RunX fa [] [] [] yes (w.withFollow "special-get-raises" true) := by
  intro os
  kernel_rfl
theorem ra (w : World) : RunX fa [] [] [] yes w := PySem.W.byRow2 "special-get-raises" (P := RunX fa [] [] [] yes) ra0 ra1 w
end Pk
namespace Pk
open PySem PySem.Spec
open PyProof.Rows L2
theorem rb0 (w : World) : RunX [] fn ts tf ex (w.withFollow "special-get-raises" false) := by
  intro os
  kernel_rfl
theorem rb1 (w : World) : RunX [] fn ts tf ex (w.withFollow "special-get-raises" true) := by
  intro os
  kernel_rfl
theorem rb (w : World) : RunX [] fn ts tf ex w := PySem.W.byRow2 "special-get-raises" (P := RunX [] fn ts tf ex) rb0 rb1 w
theorem joinE {β : Type} {E : Option PySem.W.SharedT} {f : PySem.W.SharedT → Bool} {g : PySem.W.SharedT → β} {gd : β} {h1 h2 h3 : PySem.W.SharedT → He.AlX} {v1 v2 v3 : He.AlX} (a : E.map (fun s => (f s, g s, h1 s)) = some (true, gd, v1)) (b : E.map (fun s => (f s, g s, h2 s)) = some (true, gd, v2))
    (j : ∀ s, h1 s = v1 → h2 s = v2 → h3 s = v3) : E.map (fun s => (f s, g s, h3 s)) = some (true, gd, v3) := by
  cases E with
  | none => cases a
  | some s =>
    have a1 := Option.some.inj a
    have b1 := Option.some.inj b
    have e1 : f s = true := congrArg (fun z => z.1) a1
    have e2 : g s = gd := congrArg (fun z => z.2.1) a1
    have e3 : h3 s = v3 := j s (congrArg (fun z => z.2.2) a1) (congrArg (fun z => z.2.2) b1)
    show some (f s, g s, h3 s) = _
    rw [e1, e2, e3]
theorem joinX {fa : List He.Fa} {fn : List He.DefD} {ts : List He.Tab} {tf : List He.Defn} {ex : PySem.W.Frag → Bool} {w : World} {G : Addr → Option Obj} (h1 : He.obsX 4 fa [] [] [] yes G = He.valX [] [] w) (h2 : He.obsX 4 [] fn ts tf ex G = He.valX fn ts w) : He.obsX 4 fa fn ts tf ex G = He.valX fn ts w := by
  have e : ((fa.all fun f => f.ok (He.frT G (He.asD G 4))) && true) = true := congrArg (fun z : He.AlX => z.1.1.1) h1
  have e' : (fa.all fun f => f.ok (He.frT G (He.asD G 4))) = true := by rw [Bool.and_true] at e; exact e
  have k : He.obsX 4 fa fn ts tf ex G = He.obsX 4 [] fn ts tf ex G := by
    unfold He.obsX He.obsT He.obsD
    rw [e']
    rfl
  rw [k, h2]
theorem run (w : World) : HandSHeadRun.RunEq R (PySem.W.view R.prog [90]) hk ob 9000 nms w := fun os => joinE (ra w os) (rb w os) fun s h1 h2 => joinX h1 h2
end Pk
namespace Pk
open PySem PySem.Spec
open PyProof.Rows L2
/-! ### min of three ints -/
def mn3 (i j k : Int) : Int := if j < i then (if k < j then k else j) else (if k < i then k else i)
def rMin3 : List V → Hp → VK → Prop := fun xs H Q => ∃ i j k : Int, xs = [.int i, .int j, .int k] ∧ Q (.int (mn3 i j k)) H
theorem vals3 {x y z : V} {us : List Value} (r : Vals [x, y, z] us) : ∃ a b c, us = [a, b, c] ∧ RelV x a ∧ RelV y b ∧ RelV z c := by
  cases r with
  | cons r1 r2 =>
    cases r2 with
    | cons r3 r4 =>
      cases r4 with
      | cons r5 r6 => cases r6; exact ⟨_, _, _, rfl, r1, r3, r5⟩
theorem cl_min3 {X : Cx} (hc : X.calm = true) : CallR X (.builtin "min") rMin3 := by
  intro pins s σ H xs us Q I r h
  obtain ⟨i, j, k, rfl, q⟩ := h
  obtain ⟨a, b, c, rfl, ⟨t, rfl⟩, ⟨t', rfl⟩, ⟨t2, rfl⟩⟩ := vals3 r
  refine min_three_ints (I.ok.hd hc) fun h' tk kp => ⟨_, H, I.kept kp, ?_, q⟩
  unfold mn3
  by_cases h1 : j < i
  · rw [if_pos h1, if_pos h1]
    by_cases h2 : k < j
    · rw [if_pos h2, if_pos h2]; exact ⟨_, rfl⟩
    · rw [if_neg h2, if_neg h2]; exact ⟨_, rfl⟩
  · rw [if_neg h1, if_neg h1]
    by_cases h2 : k < i
    · rw [if_pos h2, if_pos h2]; exact ⟨_, rfl⟩
    · rw [if_neg h2, if_neg h2]; exact ⟨_, rfl⟩
/-! ### xs[::2], xs[1::2] -/
def evN {α : Type} (a : Nat) (xs : List α) : List α := (List.range ((xs.length + 1 - a) / 2)).filterMap fun k => xs[a + 2 * k]?
theorem fm_all {α β : Type} (f : α → Option β) (g : α → β) : ∀ l : List α, (∀ x ∈ l, f x = some (g x)) → l.filterMap f = l.map g
  | [], _ => rfl
  | x :: l, h => by
    rw [List.filterMap_cons, h x (by simp), List.map_cons, fm_all f g l fun y hy => h y (by simp [hy])]
theorem evN_map {α : Type} (a : Nat) (xs : List α) (ha : a ≤ 2) (d : α) : evN a xs = (List.range ((xs.length + 1 - a) / 2)).map fun k => xs.getD (a + 2 * k) d := by
  unfold evN
  refine fm_all _ _ _ fun k hk => ?_
  have h1 := List.mem_range.mp hk
  have h2 : a + 2 * k < xs.length := by omega
  rw [List.getD_eq_getElem?_getD, List.getElem?_eq_getElem h2]
  rfl
theorem evN_length {α : Type} (a : Nat) (xs : List α) (ha : a ≤ 2) : (evN a xs).length = (xs.length + 1 - a) / 2 := by
  cases xs with
  | nil =>
    have h : ([] : List α).length = 0 := rfl
    unfold evN
    rw [h, show (0 + 1 - a) / 2 = 0 by omega]
    rfl
  | cons x r => rw [evN_map a (x :: r) ha x, List.length_map, List.length_range]
theorem evN_get {α : Type} (a : Nat) (xs : List α) (ha : a ≤ 2) (k : Nat) : (evN a xs)[k]? = xs[a + 2 * k]? := by
  by_cases h : k < (xs.length + 1 - a) / 2
  · have h2 : a + 2 * k < xs.length := by omega
    rw [evN_map a xs ha (xs[a + 2 * k]), List.getElem?_map, List.getElem?_range h, List.getElem?_eq_getElem h2, Option.map_some, List.getD_eq_getElem?_getD, List.getElem?_eq_getElem h2]
    rfl
  · rw [List.getElem?_eq_none (by rw [evN_length a xs ha]; omega), List.getElem?_eq_none (by omega)]
theorem evN_ints (a : Nat) (ns : List Int) : evN a (ns.map V.int) = (evN a ns).map V.int := by
  unfold evN
  rw [List.length_map, List.map_filterMap]
  congr 1
  funext k
  rw [List.getElem?_map]
theorem evN_mem {α : Type} {a : Nat} {xs : List α} {x : α} (h : x ∈ evN a xs) : x ∈ xs := by
  obtain ⟨k, _, e⟩ := List.mem_filterMap.mp h
  exact List.mem_of_getElem? e
theorem vals_pick {xs : List V} {us : List Value} (r : Vals xs us) : ∀ l : List Nat, Vals (l.filterMap fun k => xs[k]?) (l.filterMap fun k => us[k]?)
  | [] => .nil
  | k :: l => by
    rw [List.filterMap_cons, List.filterMap_cons]
    cases e : xs[k]? with
    | none =>
      rw [r.none_of e]
      exact vals_pick r l
    | some x =>
      obtain ⟨u, hu, ru⟩ := r.get e
      rw [hu]
      exact .cons ru (vals_pick r l)
theorem range_step2 (a n : Nat) (ha : a ≤ 2) : sliceRange ((min a n : Nat) : Int) (n : Int) 2 = (List.range ((n + 1 - a) / 2)).map fun k => a + 2 * k := by
  unfold sliceRange
  have h2 : ((2 : Int) > 0) := by decide
  simp only [h2, if_true]
  by_cases h : ((min a n : Nat) : Int) < (n : Int)
  · have ea : min a n = a := by omega
    have e : (((n : Int) - ((min a n : Nat) : Int) + 2 - 1) / 2).toNat = (n + 1 - a) / 2 := by rw [ea]; omega
    simp only [h, if_true, e]
    refine List.map_congr_left fun k _ => ?_
    rw [ea]
    omega
  · have e : (n + 1 - a) / 2 = 0 := by omega
    simp only [h, if_false, e]
    rfl
theorem pick_two (its : List Value) (a : Nat) (ha : a ≤ 2) : slicePick its.toArray (some (a : Int)) none (some 2) = (((List.range ((its.length + 1 - a) / 2)).map fun k => a + 2 * k).filterMap fun k => its[k]?).toArray := by
  have b1 : (sliceBounds (some (a : Int)) none (some 2) its.toArray.size) = (((min a its.length : Nat) : Int), ((its.length : Nat) : Int), 2) := by
    have h : ¬ ((a : Int) < 0) := by omega
    simp only [sliceBounds, Option.getD_some, List.size_toArray, h, if_false]
    simp
    omega
  unfold slicePick
  rw [b1]
  show ((sliceRange ((min a its.length : Nat) : Int) ((its.length : Nat) : Int) 2).filterMap fun k => its.toArray[k]?).toArray = _
  rw [range_step2 a its.length ha]
  simp
theorem pick_two0 (its : List Value) : slicePick its.toArray none none (some 2) = (((List.range ((its.length + 1 - 0) / 2)).map fun k => 0 + 2 * k).filterMap fun k => its[k]?).toArray := by
  have h := pick_two its 0 (by omega)
  rw [← h]
  have b1 : sliceBounds none none (some 2) its.toArray.size = sliceBounds (some ((0 : Nat) : Int)) none (some 2) its.toArray.size := by
    simp [sliceBounds]
    omega
  unfold slicePick
  rw [b1]
theorem vals_ev {xs : List V} {its : List Value} (r : Vals xs its) (a : Nat) : Vals (evN a xs) (((List.range ((its.length + 1 - a) / 2)).map fun k => a + 2 * k).filterMap fun k => its[k]?) := by
  have h := vals_pick r ((List.range ((its.length + 1 - a) / 2)).map fun k => a + 2 * k)
  rw [List.filterMap_map] at h ⊢
  unfold evN
  rw [r.length]
  rw [List.filterMap_map] at h
  exact h
def tSl2 (K : PySem.W.Frag) (a : Nat) (te : TE) : TE := fun σ H Q => te σ H fun x H1 => ∃ p xs, x = .ref p ∧ SqL K H1 p xs ∧ ∀ q, H1 q = none → Q (.ref q) (upd H1 q (.lst (evN a xs)))
section
variable {X : Cx}
theorem pe_sl20 {e : Expr} {te : TE} {k : Nat} {p2 p3 pos : Pos} (he : PE X e te) : PE X (.Subscript e (.Slice none none (some (.Constant (.int 2) k p2)) p3) pos) (tSl2 X.K 0 te) := by
  refine ⟨fun pins s σ H Q I h => ?_⟩
  refine Subscript_ (thn (he.run pins s σ H _ I h) fun v s1 ⟨x, H1, I1, r1, q1⟩ => ?_)
  obtain ⟨a, xs, ex, hx, q⟩ := q1
  subst ex
  cases r1
  have hst : PO X (some (.Constant (.int 2) k p2)) (tPart (tC (.int 2))) := po_some pe_int
  refine wpAny_Slice (thn (po_none.run pins s1 σ H1 (fun o H2 => o = none ∧ H2 = H1) I1 ⟨rfl, rfl⟩) fun vl s2 ⟨l, H2, I2, pl, el, e2⟩ => ?_)
  subst el e2
  refine thn (po_none.run pins s2 σ H2 (fun o H3 => o = none ∧ H3 = H2) I2 ⟨rfl, rfl⟩) fun vu s3 ⟨u, H3, I3, pu, eu, e3⟩ => ?_
  subst eu e3
  refine thn (hst.run pins s3 σ H3 (fun o H4 => o = some 2 ∧ H4 = H3) I3 ⟨2, rfl, rfl, rfl⟩) fun vs s4 ⟨o, H4, I4, ps, eo, e4⟩ => ?_
  subst eo e4
  have I5 : Inv X pins σ H4 { s4 with heap := s4.heap.push { cls := .type "slice", data := .fields #[vl, vu, vs] } } := I4.kept (t' := s4.toks) fun b ob q => Heap.get?_push_of_some _ q
  obtain ⟨its, r, ht, hz⟩ := I5.list hx
  have hlen := r.length
  show wpAny (model X.prog X.w) X.A (subscriptTail e (.Slice none none (some (.Constant (.int 2) k p2)) p3) (.ref a) (.ref s4.heap.objs.size)) (EP X pins σ Q) X.xe { s4 with heap := s4.heap.push { cls := .type "slice", data := .fields #[vl, vu, vs] } }
  refine tail_any (ops := [.ref a, .ref s4.heap.objs.size]) ht.isList.typeIs (PySem.slot_list_getitem.lookup) ?_ (by with_unfolding_all rfl)
  refine wpAny_getItem_list_slice ht.isList (Heap.IsSliceOf.new _ vl vu vs) pl pu ps (by decide) ?_ (by rw [List.size_toArray]; omega)
  rw [pick_two0 its]
  refine ⟨.ref _, _, I5.laid (t' := s4.toks) (o := .lst (evN 0 xs)) (fun b ob q => Heap.get?_push_of_some _ q) (Nat.le_refl _) ?_, rfl, q _ (I5.hok.fresh (Nat.le_refl _))⟩
  exact ⟨by rw [evN_length 0 xs (by omega)]; omega, _, 0, vals_ev r 0, Heap.get?_push_size _ rfl⟩
theorem pe_sl21 {e : Expr} {te : TE} {k j : Nat} {p1 p2 p3 pos : Pos} (he : PE X e te) : PE X (.Subscript e (.Slice (some (.Constant (.int 1) j p1)) none (some (.Constant (.int 2) k p2)) p3) pos) (tSl2 X.K 1 te) := by
  refine ⟨fun pins s σ H Q I h => ?_⟩
  refine Subscript_ (thn (he.run pins s σ H _ I h) fun v s1 ⟨x, H1, I1, r1, q1⟩ => ?_)
  obtain ⟨a, xs, ex, hx, q⟩ := q1
  subst ex
  cases r1
  have hst : PO X (some (.Constant (.int 2) k p2)) (tPart (tC (.int 2))) := po_some pe_int
  have hlo : PO X (some (.Constant (.int 1) j p1)) (tPart (tC (.int 1))) := po_some pe_int
  refine wpAny_Slice (thn (hlo.run pins s1 σ H1 (fun o H2 => o = some 1 ∧ H2 = H1) I1 ⟨1, rfl, rfl, rfl⟩) fun vl s2 ⟨l, H2, I2, pl, el, e2⟩ => ?_)
  subst el e2
  refine thn (po_none.run pins s2 σ H2 (fun o H3 => o = none ∧ H3 = H2) I2 ⟨rfl, rfl⟩) fun vu s3 ⟨u, H3, I3, pu, eu, e3⟩ => ?_
  subst eu e3
  refine thn (hst.run pins s3 σ H3 (fun o H4 => o = some 2 ∧ H4 = H3) I3 ⟨2, rfl, rfl, rfl⟩) fun vs s4 ⟨o, H4, I4, ps, eo, e4⟩ => ?_
  subst eo e4
  have I5 : Inv X pins σ H4 { s4 with heap := s4.heap.push { cls := .type "slice", data := .fields #[vl, vu, vs] } } := I4.kept (t' := s4.toks) fun b ob q => Heap.get?_push_of_some _ q
  obtain ⟨its, r, ht, hz⟩ := I5.list hx
  have hlen := r.length
  show wpAny (model X.prog X.w) X.A (subscriptTail e (.Slice (some (.Constant (.int 1) j p1)) none (some (.Constant (.int 2) k p2)) p3) (.ref a) (.ref s4.heap.objs.size)) (EP X pins σ Q) X.xe { s4 with heap := s4.heap.push { cls := .type "slice", data := .fields #[vl, vu, vs] } }
  refine tail_any (ops := [.ref a, .ref s4.heap.objs.size]) ht.isList.typeIs (PySem.slot_list_getitem.lookup) ?_ (by with_unfolding_all rfl)
  refine wpAny_getItem_list_slice ht.isList (Heap.IsSliceOf.new _ vl vu vs) pl pu ps (by decide) ?_ (by rw [List.size_toArray]; omega)
  rw [show (some (1 : Int)) = some ((1 : Nat) : Int) from rfl, pick_two its 1 (by omega)]
  refine ⟨.ref _, _, I5.laid (t' := s4.toks) (o := .lst (evN 1 xs)) (fun b ob q => Heap.get?_push_of_some _ q) (Nat.le_refl _) ?_, rfl, q _ (I5.hok.fresh (Nat.le_refl _))⟩
  exact ⟨by rw [evN_length 1 xs (by omega)]; omega, _, 0, vals_ev r 1, Heap.get?_push_size _ rfl⟩
theorem pe_sl22 {e : Expr} {te : TE} {k j : Nat} {p1 p2 p3 pos : Pos} (he : PE X e te) : PE X (.Subscript e (.Slice (some (.Constant (.int 2) j p1)) none (some (.Constant (.int 2) k p2)) p3) pos) (tSl2 X.K 2 te) := by
  refine ⟨fun pins s σ H Q I h => ?_⟩
  refine Subscript_ (thn (he.run pins s σ H _ I h) fun v s1 ⟨x, H1, I1, r1, q1⟩ => ?_)
  obtain ⟨a, xs, ex, hx, q⟩ := q1
  subst ex
  cases r1
  have hst : PO X (some (.Constant (.int 2) k p2)) (tPart (tC (.int 2))) := po_some pe_int
  have hlo : PO X (some (.Constant (.int 2) j p1)) (tPart (tC (.int 2))) := po_some pe_int
  refine wpAny_Slice (thn (hlo.run pins s1 σ H1 (fun o H2 => o = some 2 ∧ H2 = H1) I1 ⟨2, rfl, rfl, rfl⟩) fun vl s2 ⟨l, H2, I2, pl, el, e2⟩ => ?_)
  subst el e2
  refine thn (po_none.run pins s2 σ H2 (fun o H3 => o = none ∧ H3 = H2) I2 ⟨rfl, rfl⟩) fun vu s3 ⟨u, H3, I3, pu, eu, e3⟩ => ?_
  subst eu e3
  refine thn (hst.run pins s3 σ H3 (fun o H4 => o = some 2 ∧ H4 = H3) I3 ⟨2, rfl, rfl, rfl⟩) fun vs s4 ⟨o, H4, I4, ps, eo, e4⟩ => ?_
  subst eo e4
  have I5 : Inv X pins σ H4 { s4 with heap := s4.heap.push { cls := .type "slice", data := .fields #[vl, vu, vs] } } := I4.kept (t' := s4.toks) fun b ob q => Heap.get?_push_of_some _ q
  obtain ⟨its, r, ht, hz⟩ := I5.list hx
  have hlen := r.length
  show wpAny (model X.prog X.w) X.A (subscriptTail e (.Slice (some (.Constant (.int 2) j p1)) none (some (.Constant (.int 2) k p2)) p3) (.ref a) (.ref s4.heap.objs.size)) (EP X pins σ Q) X.xe { s4 with heap := s4.heap.push { cls := .type "slice", data := .fields #[vl, vu, vs] } }
  refine tail_any (ops := [.ref a, .ref s4.heap.objs.size]) ht.isList.typeIs (PySem.slot_list_getitem.lookup) ?_ (by with_unfolding_all rfl)
  refine wpAny_getItem_list_slice ht.isList (Heap.IsSliceOf.new _ vl vu vs) pl pu ps (by decide) ?_ (by rw [List.size_toArray]; omega)
  have pk : slicePick its.toArray (some 2) none (some 2) = _ := pick_two its 2 (by omega)
  rw [pk]
  refine ⟨.ref _, _, I5.laid (t' := s4.toks) (o := .lst (evN 2 xs)) (fun b ob q => Heap.get?_push_of_some _ q) (Nat.le_refl _) ?_, rfl, q _ (I5.hok.fresh (Nat.le_refl _))⟩
  exact ⟨by rw [evN_length 2 xs (by omega)]; omega, _, 0, vals_ev r 2, Heap.get?_push_size _ rfl⟩
end
/-! ### for i, c in enumerate(text) -/
def Itse (x : Str) : It :=
  ⟨fun i _ => i < x.cps.size, fun i H v H' => ∃ T c, v = .ref T ∧ H T = none ∧ H' = upd H T (.tup [.int (i : Nat), .str ⟨#[c]⟩]) ∧ x.cps[i]? = some c, fun i _ => x.cps.size ≤ i⟩
theorem drawsT {prog : Program} {w : World} {A : Around} (hh : A.handled = none) (it : Addr) (x : Str) (t : Tok) :
    Draws prog w A.in1 it [it] x.cps.size (fun i v => ∃ c u, x.cps[i]? = some c ∧ v = .str ⟨#[c]⟩ u) (fun i h => h.IsStrIter it (strIterType x) x t i) := Draws.text (A := A.in1) hh it x t
theorem turn_enumS {P : Program} {w : World} {K : PySem.W.Frag} {elts : List Expr} {kk : Nat} {tpos : Pos} (e it : Addr) (x : Str) (t : Tok) :
    Turn P w K (.Tuple elts kk tpos) (Itse x) [e, it] e (fun i h => i ≤ x.cps.size ∧ (∃ old, IsEnum h e it ((i : Nat) : Int) old) ∧ h.IsStrIter it (strIterType x) x t i ∧ e ≠ it) where
  mem := by simp
  obj := fun i h st b hb => by
    obtain ⟨_, ⟨old, he⟩, ⟨o, ho, hc, hd⟩, _⟩ := st
    have e' : b = e ∨ b = it := by simpa using hb
    rcases e' with z | z
    · rw [z]; exact ⟨_, he, fun v q => nomatch q⟩
    · rw [z]; exact ⟨o, ho, fun v q => by rw [hd] at q; cases q⟩
  keep := fun i h h' st k => let ⟨hi, ⟨old, he⟩, ⟨o, ho, r⟩, hne⟩ := st; ⟨hi, ⟨old, k e (by simp) _ he⟩, ⟨o, k it (by simp) o ho, r⟩, hne⟩
  item := by
    intro X hP hw hK hc i pins s σ H E I hf st hg
    subst hP hw hK
    obtain ⟨hi, ⟨old, he⟩, hit, hne⟩ := st
    have hel : e < s.heap.objs.size := Heap.lt_size he
    have hil : it < s.heap.objs.size := by obtain ⟨_, q, _⟩ := hit; exact Heap.lt_size q
    refine wpAny_pyNext_enum_itemD (drawsT (I.ok.hd hc) it x t) he hit hg hne (by simpa using hne) fun v h' tk hv ho hit' hT hsz hk => ?_
    obtain ⟨c, u, hcx, rfl⟩ := hv
    refine ⟨_, rfl, wpAny_letOwnedTupleGo_enum (s := { s with heap := h', toks := tk + 1 }) ho fun h'' he' sb => ?_⟩
    have hT2 : h''.get? s.heap.objs.size = some { cls := .type "tuple", data := .seq #[.int i tk, .str ⟨#[c]⟩ u] } := (sb.2 _ (Nat.ne_of_gt hel)).trans hT
    have new : ObjOk X.prog X.w (upd H s.heap.objs.size (.tup [.int (i : Nat), .str ⟨#[c]⟩])) h'' s.heap.objs.size (.tup [.int (i : Nat), .str ⟨#[c]⟩]) :=
      ⟨by show 2 ≤ sizeLine; decide, [.int i tk, .str ⟨#[c]⟩ u], .cons ⟨_, rfl⟩ (.cons ⟨_, rfl⟩ .nil), ⟨_, hT2, rfl, _, rfl⟩⟩
    have I1 : Inv X pins σ (upd H s.heap.objs.size (.tup [.int (i : Nat), .str ⟨#[c]⟩])) { s with heap := h'', toks := tk + 1 } :=
      I.turnedNew (ch := [e, it]) (fun b ob hb q => (sb.2 b (fun z => hb (by simp [z]))).trans (hk b ob (fun z => hb (by simp [z])) (fun z => hb (by simp [z])) q)) hf (Nat.le_refl _) new
    have hg' : i < x.cps.size := hg
    refine ⟨.ref s.heap.objs.size, _, I1, rfl, ⟨_, c, rfl, I.hok.fresh (Nat.le_refl _), rfl, hcx⟩, ⟨hg', ⟨.str ⟨#[c]⟩ u, ?_⟩, ?_, hne⟩, fun b hb => ?_⟩
    · have e1 : ((i + 1 : Nat) : Int) = (i : Int) + 1 := by omega
      rw [e1]; exact he'
    · obtain ⟨o, ho2, r2⟩ := hit'
      exact ⟨o, (sb.2 it (Ne.symm hne)).trans ho2, r2⟩
    · have hb' : b < s.heap.objs.size := by
        have e' : b = e ∨ b = it := by simpa using hb
        rcases e' with z | z
        · rw [z]; exact hel
        · rw [z]; exact hil
      rw [upd_ne (Nat.ne_of_lt hb')]
      exact (hf b hb).1
  done := by
    intro X hP hw hK hc i pins s σ H E I hf st hg
    subst hP hw hK
    obtain ⟨hi, ⟨old, he⟩, hit, hne⟩ := st
    obtain ⟨f0, f1, f2, f3, f4, f5⟩ := hf it (by simp)
    have ei : i = x.cps.size := Nat.le_antisymm hi hg
    subst ei
    exact wpAny_pyNext_enum_endD (drawsT (I.ok.hd hc) it x t) he hit fun h' eb => ⟨rfl, I.turned (t' := s.toks) (fun b o hb q => eb b o hb q) f0 f1 f3 f4 f5⟩
  self := fun A i s Q E st h => let ⟨_, ⟨_, he⟩, _⟩ := st; wpAny_pyIter_enum he h
def iEnumS (ta : TA) : TI := fun σ H R => ta σ H fun vs H1 => ∃ x, vs = [.str x] ∧ R (Itse x) H1
theorem pi_enumS {X : Cx} {e : Expr} {ta : TA} {p pos tpos : Pos} {elts : List Expr} {kk : Nat} (hg : Gl X "enumerate") (hm : X.mg "enumerate" = none) (ha : PA X [e] ta) (hs : starEach [e] X.env = [(false, eval e X.env)] := by rfl) :
    PI X (.Tuple elts kk tpos) (.Call (.Name "enumerate" p) [e] [] pos) (iEnumS ta) := by
  refine ⟨fun pins s σ H R I h => ?_⟩
  refine Call_ (ld_blt I hg hm boot_enumerate (PyProof.Rows.callWith_type1 (thn (ha.run pos pins s σ H _ I h) fun us s1 ⟨vs, H1, I1, r1, q1⟩ => ?_) hs rfl))
  obtain ⟨x, ex, q⟩ := q1
  subst ex
  cases r1 with
  | cons r rr =>
    cases rr
    obtain ⟨t, rfl⟩ := r
    refine call_enumerate_str fun h' he hit hsz hk => wpAny_pyIter_enum he ?_
    have I2 : Inv X pins σ H1 { s1 with heap := h' } := I1.kept (t' := s1.toks) hk
    refine ⟨s1.heap.objs.size + 1, [s1.heap.objs.size + 1, s1.heap.objs.size], _, _, H1, rfl, I2, turn_enumS (s1.heap.objs.size + 1) s1.heap.objs.size x t, ⟨Nat.zero_le _, ⟨.none, he⟩, hit, Nat.succ_ne_self _⟩, fun b hb => ?_, q⟩
    have e' : b = s1.heap.objs.size + 1 ∨ b = s1.heap.objs.size := by simpa using hb
    have hle : s1.heap.objs.size ≤ b := by
      rcases e' with z | z
      · rw [z]; exact Nat.le_add_right _ _
      · rw [z]; exact Nat.le_refl _
    exact I1.fpOk hle (I1.hok.fresh hle)
theorem walk_enumS {z : Str} : Walk (Itse z) z.cps.size (fun _ => True) (fun i H v H' => ∃ T c, v = .ref T ∧ H T = none ∧ H' = upd H T (.tup [.int (i : Nat), .str ⟨#[c]⟩]) ∧ z.cps[i]? = some c) :=
  ⟨fun _ _ hi _ => hi, fun _ _ => Nat.le_refl _, fun _ _ _ _ _ _ y => y⟩
/-! ### SIZES.get(key, 0): a dict of the written part -/
def tKget (K : PySem.W.Frag) (d : Addr) (td ty tx : TE) : TE := fun σ H Q => td σ H fun x H1 => x = .ref d ∧ ty σ H1 fun y H2 => tx σ H2 fun z H3 => ∃ (key : Str) (r : Option Value), y = .str key ∧ PySem.W.nsIn K d key = some r ∧
  (∀ u, r = some u → ∃ v, RelV v u ∧ Q v H3) ∧ (r = none → Q z H3)
section
variable {X : Cx} {o e f : Expr} {apos cpos : Pos} {td ty tx : TE} {d : Addr} {es : Array DictEntry} {n : Nat}
theorem pe_kget (D : KDict X.K X.w d es n) (ho : PE X o td) (he : PE X e ty) (hf : PE X f tx) (m : M2 X o "get" apos e f cpos) : PE X (.Call (.Attribute o "get" apos) [e, f] [] cpos) (tKget X.K d td ty tx) := by
  refine ⟨fun pins s σ H Q I h => ?_⟩
  refine wpAny_Call_method m.base m.few m.line PySem.F.plainAttrs_dict PySem.F.slot_dict_get PySem.F.type_dict_get (thn (ho.run pins s σ H _ I h) fun u s1 ⟨x, H1, I1, rx, ex, q1⟩ => ?_)
  subst ex
  obtain rfl : u = Value.ref d := rx
  refine ⟨kd_type D I1, fun a ea => ?_, ?_⟩
  · cases ea
    exact ⟨_, I1.kIn d _ D.at_, rfl⟩
  rw [m.trees]
  refine Calls.callWith_builtin rfl (Calls.evalArgs_plain (Calls.spliced_cons (thn (he.run pins s1 σ H1 _ I1 q1) fun iv s2 ⟨y, H2, I2, ry, q2⟩ =>
    Calls.spliced_cons (thn (hf.run pins s2 σ H2 _ I2 q2) fun fv s3 ⟨z, H3, I3, rz, q3⟩ => Calls.spliced_nil ?_))))
  obtain ⟨key, r, ey, er, k1, k2⟩ := q3
  subst ey
  obtain ⟨t, rfl⟩ := ry
  refine call_meetsIn PySem.F.slot_dict_get (kd_type D I3) PySem.F.entry_dict_get (PySem.F.args_dict_get_3 _ _ _) (meets_dict_get_default (strKind X.prog X.w) d (PySem.strKind_is X.prog X.w key t) D.low fv) ⟨_, PySem.W.mapOf_K (prog := X.prog) I3.kIn D.at_ D.lit, ?_⟩
  rw [PySem.W.find_K D.at_ er]
  cases r with
  | none => exact ⟨z, H3, I3.tok _, rz, k2 rfl⟩
  | some u =>
    obtain ⟨v, rv, q⟩ := k1 u rfl
    exact ⟨v, H3, I3.tok _, rv, q⟩
end
end Pk
namespace Pk
open PySem PySem.Spec
open PyProof.Rows L2
/-! ### texts as lists of codes -/
def tx (l : List Nat) : Str := ⟨l.toArray⟩
theorem tx_list (l : List Nat) : (tx l).cps.toList = l := by unfold tx; simp
theorem tx_len (l : List Nat) : (tx l).length = l.length := by unfold tx PySem.Str.length; simp
theorem tx_size (l : List Nat) : (tx l).cps.size = l.length := by unfold tx; simp
theorem tx_at (l : List Nat) (i : Nat) : (tx l).cps[i]? = l[i]? := by unfold tx; simp
theorem tx_app (a b : List Nat) : tx a ++ tx b = tx (a ++ b) := by
  show PySem.Str.append (tx a) (tx b) = _
  unfold PySem.Str.append tx
  simp
theorem tx_inj {a b : List Nat} (h : tx a = tx b) : a = b := by
  have h2 := congrArg (fun s : Str => s.cps.toList) h
  simpa [tx] using h2
theorem tx_dec (a b : List Nat) : decide (V.str (tx a) = V.str (tx b)) = decide (a = b) := by
  by_cases e : a = b
  · subst e; simp
  · have h : ¬ V.str (tx a) = V.str (tx b) := fun q => e (tx_inj (V.str.inj q))
    rw [decide_eq_false h, decide_eq_false e]
theorem tx_of (s : Str) : s = tx s.cps.toList := by
  obtain ⟨a⟩ := s
  unfold tx
  simp
theorem tx_one (c : Nat) : (⟨#[c]⟩ : Str) = tx [c] := rfl
/-! ### heaps that grow -/
def Ex (H H' : Hp) : Prop := ∀ a o, H a = some o → H' a = some o
theorem Ex.refl (H : Hp) : Ex H H := fun _ _ h => h
theorem Ex.trans {H H1 H2 : Hp} (a : Ex H H1) (b : Ex H1 H2) : Ex H H2 := fun c o h => b c o (a c o h)
theorem Ex.new {H : Hp} {p : Addr} {o : HO} (h : H p = none) : Ex H (upd H p o) := fun a u e => by
  rw [upd_ne (ne_of_none e h)]
  exact e
theorem Ex.free {H H' : Hp} (e : Ex H H') {p : Addr} (h : H' p = none) : H p = none := by
  cases q : H p with
  | none => rfl
  | some o => rw [e p o q] at h; cases h
theorem Ex.sq {K : PySem.W.Frag} {H H' : Hp} {a : Addr} {xs : List V} (e : Ex H H') (h : SqL K H a xs) : SqL K H' a xs := by
  rcases h with (h | ⟨o, h⟩) | h
  · exact .inl (.inl (e _ _ h))
  · exact .inl (.inr ⟨o, e _ _ h⟩)
  · exact .inr h
/-- S: what stands still (within H); behind: S' within H', what is in H but not in S stays out of S' -/
structure Gw (S H S' H' : Hp) : Prop where
  h : Ex H H'
  s : Ex S S'
  i : Ex S' H'
  n : ∀ a, H a ≠ none → S a = none → S' a = none
section
variable {S H S1 H1 S2 H2 S3 H3 : Hp} {p : Addr} {o o' : HO}
theorem Gw.refl (e : Ex S H) : Gw S H S H := ⟨Ex.refl _, Ex.refl _, e, fun _ _ h => h⟩
theorem Gw.trans (a : Gw S H S1 H1) (b : Gw S1 H1 S2 H2) : Gw S H S2 H2 :=
  ⟨a.h.trans b.h, a.s.trans b.s, b.i, fun c h1 h2 => b.n c (fun z => by
    cases q : H c with
    | none => exact h1 q
    | some u => rw [a.h c u q] at z; cases z) (a.n c h1 h2)⟩
theorem Gw.out (g : Gw S H S1 H1) (h : H p = some o) (hs : S p = none) : S1 p = none := g.n p (by rw [h]; simp) hs
/-- a new object, still from now on -/
theorem Gw.put (g : Gw S H S1 H1) (h : H1 p = none) : Gw S H (upd S1 p o) (upd H1 p o) := by
  have hs : S1 p = none := g.i.free h
  refine ⟨g.h.trans (Ex.new h), g.s.trans (Ex.new hs), fun a u e => ?_, fun a h1 h2 => ?_⟩
  · by_cases q : a = p
    · rw [q, upd_same] at e ⊢; exact e
    · rw [upd_ne q] at e ⊢; exact g.i a u e
  · by_cases q : a = p
    · rw [q] at h1; exact absurd (g.h.free h) h1
    · rw [upd_ne q]; exact g.n a h1 h2
/-- a new object that may change -/
theorem Gw.mut (g : Gw S H S1 H1) (h : H1 p = none) : Gw S H S1 (upd H1 p o) :=
  ⟨g.h.trans (Ex.new h), g.s, g.i.trans (Ex.new h), g.n⟩
/-- it changes -/
theorem Gw.set (g : Gw S H S1 H1) (h0 : H p = none) (hs : S1 p = none) : Gw S H S1 (upd H1 p o) :=
  ⟨fun a u e => by rw [upd_ne (ne_of_none e h0)]; exact g.h a u e, g.s, fun a u e => by rw [upd_ne (ne_of_none e hs)]; exact g.i a u e, g.n⟩
/-- it stands still from now on -/
theorem Gw.frz (g : Gw S H S1 H1) (h0 : H p = none) (hs : S1 p = none) (h : H1 p = some o) : Gw S H (upd S1 p o) H1 := by
  refine ⟨g.h, g.s.trans (Ex.new hs), fun a u e => ?_, fun a h1 h2 => ?_⟩
  · by_cases q : a = p
    · rw [q, upd_same] at e; rw [q, h]; exact e
    · rw [upd_ne q] at e; exact g.i a u e
  · by_cases q : a = p
    · rw [q] at h1; exact absurd h0 h1
    · rw [upd_ne q]; exact g.n a h1 h2
/-- garbage -/
theorem Gw.any (g : Gw S H S1 H1) (e : Ex H1 H2) : Gw S H S1 H2 := ⟨g.h.trans e, g.s, g.i.trans e, g.n⟩
theorem Gw.free (g : Gw S H S1 H1) (h : H1 p = none) : H p = none := g.h.free h
theorem Gw.freeS (g : Gw S H S1 H1) (h : H1 p = none) : S1 p = none := g.i.free h
end
theorem upd_get {H : Hp} {a b : Addr} {o u : HO} (h : H a = some u) (hb : H b = none) : upd H b o a = some u := by
  rw [upd_ne (ne_of_none h hb)]; exact h
/-! ### data that stand still -/
mutual
inductive At (S : Hp) : V → PyData → Prop
  | non : At S .non .none
  | bl (b : Bool) : At S (.bl b) (.bool b)
  | int (i : Int) : At S (.int i) (.int i)
  | str (x : Str) : At S (.str x) (.str x)
  | lst {a : Addr} {xs : List V} {ds : List PyData} : S a = some (.lst xs) → AtA S xs ds → At S (.ref a) (.list ds)
  | tup {a : Addr} {xs : List V} {ds : List PyData} : S a = some (.tup xs) → AtA S xs ds → At S (.ref a) (.tuple ds)
inductive AtA (S : Hp) : List V → List PyData → Prop
  | nil : AtA S [] []
  | cons {v : V} {vs : List V} {d : PyData} {ds : List PyData} : At S v d → AtA S vs ds → AtA S (v :: vs) (d :: ds)
end
mutual
theorem At.mono {S S' : Hp} (e : Ex S S') : ∀ {v : V} {d : PyData}, At S v d → At S' v d
  | _, _, .non => .non
  | _, _, .bl b => .bl b
  | _, _, .int i => .int i
  | _, _, .str x => .str x
  | _, _, .lst h r => .lst (e _ _ h) (AtA.mono e r)
  | _, _, .tup h r => .tup (e _ _ h) (AtA.mono e r)
theorem AtA.mono {S S' : Hp} (e : Ex S S') : ∀ {vs : List V} {ds : List PyData}, AtA S vs ds → AtA S' vs ds
  | _, _, .nil => .nil
  | _, _, .cons h r => .cons (At.mono e h) (AtA.mono e r)
end
mutual
theorem At.dp {K : PySem.W.Frag} {S H : Hp} (e : Ex S H) : ∀ {v : V} {d : PyData}, At S v d → Dp K H v d
  | _, _, .non => .non
  | _, _, .bl b => .bl b
  | _, _, .int i => .int i
  | _, _, .str x => .str x
  | _, _, .lst h r => .lst (SqL.of (e _ _ h)) (AtA.dp e r)
  | _, _, .tup h r => .tup (SqT.of (e _ _ h)) (AtA.dp e r)
theorem AtA.dp {K : PySem.W.Frag} {S H : Hp} (e : Ex S H) : ∀ {vs : List V} {ds : List PyData}, AtA S vs ds → DpAll K H vs ds
  | _, _, .nil => .nil
  | _, _, .cons h r => .cons (At.dp e h) (AtA.dp e r)
end
section
variable {S S' : Hp} {v : V} {vs ws : List V} {d : PyData} {ds es : List PyData}
theorem At.int_ {i : Int} (h : At S v (.int i)) : v = .int i := by cases h; rfl
theorem At.str_ {x : Str} (h : At S v (.str x)) : v = .str x := by cases h; rfl
theorem At.bl_ {b : Bool} (h : At S v (.bool b)) : v = .bl b := by cases h; rfl
theorem At.lst_ (h : At S v (.list ds)) : ∃ a xs, v = .ref a ∧ S a = some (.lst xs) ∧ AtA S xs ds := by
  cases h with
  | lst h r => exact ⟨_, _, rfl, h, r⟩
theorem At.tup_ (h : At S v (.tuple ds)) : ∃ a xs, v = .ref a ∧ S a = some (.tup xs) ∧ AtA S xs ds := by
  cases h with
  | tup h r => exact ⟨_, _, rfl, h, r⟩
theorem AtA.len : ∀ {vs : List V} {ds : List PyData}, AtA S vs ds → vs.length = ds.length
  | _, _, .nil => rfl
  | _, _, .cons _ r => by rw [List.length_cons, List.length_cons, AtA.len r]
theorem AtA.get : ∀ {vs : List V} {ds : List PyData} {i : Nat} {d : PyData}, AtA S vs ds → ds[i]? = some d → ∃ v, vs[i]? = some v ∧ At S v d
  | _, _, _, _, .nil, e => by simp at e
  | _, _, 0, _, .cons h _, e => by
    rw [List.getElem?_cons_zero] at e
    cases e
    exact ⟨_, rfl, h⟩
  | _, _, i + 1, d, .cons _ r, e => by
    rw [List.getElem?_cons_succ] at e
    obtain ⟨v, h1, h2⟩ := AtA.get r e
    exact ⟨v, by rw [List.getElem?_cons_succ]; exact h1, h2⟩
theorem AtA.get_ : ∀ {vs : List V} {ds : List PyData} {i : Nat} {v : V}, AtA S vs ds → vs[i]? = some v → ∃ d, ds[i]? = some d ∧ At S v d
  | _, _, _, _, .nil, e => by simp at e
  | _, _, 0, _, .cons h _, e => by
    rw [List.getElem?_cons_zero] at e
    cases e
    exact ⟨_, rfl, h⟩
  | _, _, i + 1, d, .cons _ r, e => by
    rw [List.getElem?_cons_succ] at e
    obtain ⟨v, h1, h2⟩ := AtA.get_ r e
    exact ⟨v, by rw [List.getElem?_cons_succ]; exact h1, h2⟩
theorem AtA.getM {α : Type} {f : α → PyData} {vs : List V} {l : List α} {i : Nat} {v : V} (h : AtA S vs (l.map f)) (e : vs[i]? = some v) : ∃ x, l[i]? = some x ∧ At S v (f x) := by
  obtain ⟨d, h1, h2⟩ := h.get_ e
  rw [List.getElem?_map] at h1
  obtain ⟨x, hx, rfl⟩ := Option.map_eq_some_iff.mp h1
  exact ⟨x, hx, h2⟩
theorem AtA.getF {α : Type} {f : α → PyData} {vs : List V} {l : List α} {i : Nat} {x : α} (h : AtA S vs (l.map f)) (e : l[i]? = some x) : ∃ v, vs[i]? = some v ∧ At S v (f x) :=
  h.get (by rw [List.getElem?_map, e]; rfl)
theorem AtA.lenM {α : Type} {f : α → PyData} {vs : List V} {l : List α} (h : AtA S vs (l.map f)) : vs.length = l.length := by
  rw [h.len, List.length_map]
theorem AtA.app : ∀ {vs ws : List V} {ds es : List PyData}, AtA S vs ds → AtA S ws es → AtA S (vs ++ ws) (ds ++ es)
  | _, _, _, _, .nil, s => s
  | _, _, _, _, .cons h r, s => .cons h (AtA.app r s)
theorem AtA.snoc (h : AtA S vs ds) (k : At S v d) : AtA S (vs ++ [v]) (ds ++ [d]) := h.app (.cons k .nil)
theorem AtA.snocM {α : Type} {f : α → PyData} {vs : List V} {l : List α} {v : V} {x : α} (h : AtA S vs (l.map f)) (k : At S v (f x)) : AtA S (vs ++ [v]) ((l ++ [x]).map f) := by
  rw [List.map_append]
  exact h.snoc k
theorem AtA.nil_ (h : AtA S vs []) : vs = [] := by cases h; rfl
theorem AtA.cons_ (h : AtA S vs (d :: ds)) : ∃ v r, vs = v :: r ∧ At S v d ∧ AtA S r ds := by
  cases h with
  | cons h r => exact ⟨_, _, rfl, h, r⟩
theorem AtA.ints : ∀ {vs : List V} {ns : List Int}, AtA S vs (ns.map PyData.int) → vs = ns.map V.int
  | _, [], h => by cases h; rfl
  | _, n :: ns, h => by
    obtain ⟨v, r, rfl, h1, h2⟩ := AtA.cons_ (show AtA S _ (PyData.int n :: ns.map PyData.int) from h)
    rw [h1.int_, AtA.ints h2]
    rfl
theorem AtA.of_ints : ∀ ns : List Int, AtA S (ns.map V.int) (ns.map PyData.int)
  | [] => .nil
  | n :: ns => .cons (.int n) (AtA.of_ints ns)
theorem AtA.of_strs : ∀ ns : List Str, AtA S (ns.map V.str) (ns.map PyData.str)
  | [] => .nil
  | n :: ns => .cons (.str n) (AtA.of_strs ns)
theorem AtA.of_bls : ∀ ns : List Bool, AtA S (ns.map V.bl) (ns.map PyData.bool)
  | [] => .nil
  | n :: ns => .cons (.bl n) (AtA.of_bls ns)
theorem AtA.mem {α : Type} {f : α → PyData} : ∀ {vs : List V} {l : List α}, AtA S vs (l.map f) → ∀ v ∈ vs, ∃ x ∈ l, At S v (f x)
  | _, [], h, v, hv => by cases h; cases hv
  | _, x :: l, h, v, hv => by
    obtain ⟨w, r, rfl, h1, h2⟩ := AtA.cons_ (show AtA S _ (f x :: l.map f) from h)
    rcases List.mem_cons.mp hv with rfl | hv
    · exact ⟨x, by simp, h1⟩
    · obtain ⟨y, hy, k⟩ := AtA.mem h2 v hv
      exact ⟨y, by simp [hy], k⟩
theorem AtA.rev : ∀ {vs : List V} {ds : List PyData}, AtA S vs ds → AtA S vs.reverse ds.reverse
  | _, _, .nil => .nil
  | _, _, .cons h r => by
    rw [List.reverse_cons, List.reverse_cons]
    exact (AtA.rev r).snoc h
theorem AtA.take : ∀ {vs : List V} {ds : List PyData} (n : Nat), AtA S vs ds → AtA S (vs.take n) (ds.take n)
  | _, _, 0, _ => .nil
  | _, _, _ + 1, .nil => .nil
  | _, _, n + 1, .cons h r => .cons h (AtA.take n r)
theorem AtA.drop : ∀ {vs : List V} {ds : List PyData} (n : Nat), AtA S vs ds → AtA S (vs.drop n) (ds.drop n)
  | _, _, 0, r => r
  | _, _, _ + 1, .nil => .nil
  | _, _, n + 1, .cons _ r => AtA.drop n r
/-- a list of ints -/
theorem At.il_ {ns : List Int} (h : At S v (.list (ns.map PyData.int))) : ∃ a, v = .ref a ∧ S a = some (.lst (ns.map V.int)) := by
  obtain ⟨a, xs, e, h1, h2⟩ := h.lst_
  rw [h2.ints] at h1
  exact ⟨a, e, h1⟩
end
/-- an index within -/
theorem at_nat {α : Type} {xs : List α} {z : Int} {j : Nat} {v : α} (e : z = (j : Int)) (h : xs[j]? = some v) : atI xs z = some v := by
  rw [e]; exact atI_nat h
theorem at_neg1 {α : Type} {xs : List α} {v : α} (h : xs[xs.length - 1]? = some v) : atI xs (-1) = some v := by
  have h1 := (List.getElem?_eq_some_iff.mp h).1
  unfold atI ixN
  rw [if_neg (by omega), if_pos (by omega)]
  show xs[((-1 : Int) + (xs.length : Int)).toNat]? = some v
  rw [show ((-1 : Int) + (xs.length : Int)).toNat = xs.length - 1 by omega]
  exact h
theorem at_0 {α : Type} {x : α} {xs : List α} : atI (x :: xs) 0 = some x := at_nat (j := 0) rfl rfl
theorem at_1 {α : Type} {x y : α} {xs : List α} : atI (x :: y :: xs) 1 = some y := at_nat (j := 1) rfl rfl
theorem at_2 {α : Type} {x y z : α} {xs : List α} : atI (x :: y :: z :: xs) 2 = some z := at_nat (j := 2) rfl rfl
theorem at_3 {α : Type} {x y z u : α} {xs : List α} : atI (x :: y :: z :: u :: xs) 3 = some u := at_nat (j := 3) rfl rfl
theorem map_get {α β : Type} {xs : List α} {f : α → β} {i : Nat} {x : α} (h : xs[i]? = some x) : (xs.map f)[i]? = some (f x) := by
  rw [List.getElem?_map, h]; rfl
theorem rm_get {β : Type} {n i : Nat} {f : Nat → β} (h : i < n) : ((List.range n).map f)[i]? = some (f i) := by
  rw [List.getElem?_map, List.getElem?_range h]; rfl
theorem small5 {n : Nat} (h : n ≤ 100000) : n ≤ sizeLine := Nat.le_trans h (by decide)
theorem small6 {n : Nat} (h : n < 100000) : n < sizeLine := Nat.lt_of_lt_of_le h (by decide)
/-! ### what evaluates to an exact value, the heap as it was -/
def ValA (ta : TA) (σ : L2.St) (H : Hp) (vs : List V) : Prop := ∀ Q : List V → Hp → Prop, Q vs H → ta σ H Q
section
variable {K : PySem.W.Frag} {σ : L2.St} {H : Hp} {ta tb tc te : TE} {tr : TA} {x y z v : V} {vs : List V} {Q : VK} {t u : TT} {E : XK}
theorem va_nil : ValA tNil σ H [] := fun _ q => q
theorem va_cons (h : Val te σ H v) (r : ValA tr σ H vs) : ValA (tCons te tr) σ H (v :: vs) := fun _ q => h _ (r _ q)
theorem va_1 (h : Val ta σ H x) : ValA (tCons ta tNil) σ H [x] := va_cons h va_nil
theorem va_2 (h : Val ta σ H x) (k : Val tb σ H y) : ValA (tCons ta (tCons tb tNil)) σ H [x, y] := va_cons h (va_1 k)
theorem va_3 (h : Val ta σ H x) (k : Val tb σ H y) (l : Val tc σ H z) : ValA (tCons ta (tCons tb (tCons tc tNil))) σ H [x, y, z] := va_cons h (va_2 k l)
theorem val_I0 {g : Int → Int → V} {i j : Int} (h : Val ta σ H (.int i)) (k : Val tb σ H (.int j)) : Val (tOp (rI0 g) ta tb) σ H (g i j) := fun _ q => h _ (k _ ⟨i, j, rfl, rfl, q⟩)
theorem val_I {C : Int → Int → Prop} {g : Int → Int → V} {i j : Int} (h : Val ta σ H (.int i)) (k : Val tb σ H (.int j)) (c : C i j) : Val (tOp (rI C g) ta tb) σ H (g i j) := fun _ q => h _ (k _ ⟨i, j, rfl, rfl, c, q⟩)
theorem val_neg {i : Int} (h : Val ta σ H (.int i)) : Val (tUn (rU fun i => .int (-i)) ta) σ H (.int (-i)) := fun _ q => h _ ⟨i, rfl, q⟩
theorem val_eq (h : Val ta σ H x) (k : Val tb σ H y) (s : scal x y = true) : Val (tOp rEq ta tb) σ H (.bl (decide (x = y))) := fun _ q => h _ (k _ ⟨s, q⟩)
theorem val_ne (h : Val ta σ H x) (k : Val tb σ H y) (s : scal x y = true) : Val (tOp rNe ta tb) σ H (.bl (!decide (x = y))) := fun _ q => h _ (k _ ⟨s, q⟩)
theorem val_ixL {p : Addr} {xs : List V} {i : Int} (h : Val ta σ H (.ref p)) (k : Val tb σ H (.int i)) (hx : H p = some (.lst xs)) (ha : atI xs i = some v) : Val (tOp (rIxL K) ta tb) σ H v := fun _ q => h _ (k _ ⟨p, xs, i, v, rfl, rfl, SqL.of hx, ha, q⟩)
theorem val_ixQ {p : Addr} {xs : List V} {i : Int} (h : Val ta σ H (.ref p)) (k : Val tb σ H (.int i)) (hx : SqL K H p xs) (ha : atI xs i = some v) : Val (tOp (rIxL K) ta tb) σ H v := fun _ q => h _ (k _ ⟨p, xs, i, v, rfl, rfl, hx, ha, q⟩)
theorem val_ixT {p : Addr} {xs : List V} {i : Int} (h : Val ta σ H (.ref p)) (k : Val tb σ H (.int i)) (hx : H p = some (.tup xs)) (ha : atI xs i = some v) : Val (tOp (rIxT K) ta tb) σ H v := fun _ q => h _ (k _ ⟨p, xs, i, v, rfl, rfl, SqT.of hx, ha, q⟩)
theorem val_ixS {l : List Nat} {i : Int} {c : Nat} (h : Val ta σ H (.str (tx l))) (k : Val tb σ H (.int i)) (hl : l.length ≤ 100000) (ha : atI l i = some c) : Val (tOp rIxS ta tb) σ H (.str (tx [c])) :=
  fun _ q => h _ (k _ ⟨tx l, i, c, rfl, rfl, by rw [tx_len]; exact small5 hl, by rw [tx_list]; exact ha, q⟩)
theorem ans_te {b : Bool} (h : Val te σ H (.bl b)) : Ans (tTest te) σ H b := fun _ q => h _ ⟨b, rfl, q⟩
theorem val_andV {a b : Bool} (h : Val ta σ H (.bl a)) (k : a = true → Val tb σ H (.bl b)) : Val (tAndV ta tb) σ H (.bl (a && b)) := fun Q q => h _ ⟨a, rfl, by
  cases a with
  | true => exact k rfl Q q
  | false => exact q⟩
theorem val_orV {a b : Bool} (h : Val ta σ H (.bl a)) (k : a = false → Val tb σ H (.bl b)) : Val (tOrV ta tb) σ H (.bl (a || b)) := fun Q q => h _ ⟨a, rfl, by
  cases a with
  | true => exact q
  | false => exact k rfl Q q⟩
theorem val_notV {a : Bool} (h : Val ta σ H (.bl a)) : Val (tNotV ta) σ H (.bl (!a)) := fun _ q => h _ ⟨a, rfl, q⟩
theorem ans_andW {a b : Bool} (h1 : Ans t σ H a) (h2 : a = true → Ans u σ H b) : Ans (tAnd t u) σ H (a && b) := by
  cases a with
  | true => exact ans_and h1 (h2 rfl)
  | false => exact ans_and0 h1
theorem ans_orW {a b : Bool} (h1 : Ans t σ H a) (h2 : a = false → Ans u σ H b) : Ans (tOr t u) σ H (a || b) := by
  cases a with
  | true => exact ans_or1 h1
  | false => exact ans_or h1 (h2 rfl)
theorem val_chain {r r' : R2} {a b : Bool} (h : Val ta σ H x) (k : Val tb σ H y) (hr : ∀ Q : VK, Q (.bl a) H → r x y H Q) (l : a = true → Val tc σ H z) (hr' : a = true → ∀ Q : VK, Q (.bl b) H → r' y z H Q) : Val (tChain r r' ta tb tc) σ H (.bl (a && b)) := fun Q q =>
  h _ (k _ (hr _ ⟨a, rfl, by
    cases a with
    | true => exact l rfl _ (hr' rfl Q q)
    | false => exact q⟩))
theorem val_is {w : V} (h : Val te σ H v) (e : v = w) : Val te σ H w := e ▸ h
theorem val_if {b : Bool} (h : Ans t σ H b) (h1 : b = true → Val ta σ H v) (h2 : b = false → Val tb σ H v) : Val (tIf t ta tb) σ H v := fun Q q => h _ (by
  cases b with
  | true => exact h1 rfl Q q
  | false => exact h2 rfl Q q)
theorem val_fld {a C dx : Addr} {fs : List (Str × V)} {f : Str} (h : Val ta σ H (.ref a)) (ho : H a = some (.ins C dx fs)) (hc : Cls K C) (hn : NoAttr K C f) (hl : fs.lookup f = some v) : Val (tFld K ta f) σ H v := L2.val_fld h ho hc hn hl
/-- a call of a def, its arguments exact -/
theorem c_call {sp : Sp} (ha : ValA tr σ H vs) (h : sp vs H Q E) : tCall sp [] E tr σ H Q := ha _ (by rw [List.append_nil]; exact h)
theorem c_cb {r : List V → Hp → VK → Prop} (ha : ValA tr σ H vs) (h : r vs H Q) : tCB r tr σ H Q := ha _ h
theorem val_cb {r : List V → Hp → VK → Prop} (ha : ValA tr σ H vs) (h : ∀ Q : VK, Q v H → r vs H Q) : Val (tCB r tr) σ H v := fun Q q => ha _ (h Q q)
theorem val_call {sp : Sp} (ha : ValA tr σ H vs) (h : ∀ Q : VK, Q v H → sp vs H Q E) : Val (tCall sp [] E tr) σ H v := fun Q q => c_call ha (h Q q)
theorem c_meth {C a dx : Addr} {m : Str} {sp : Sp} {fs : List (Str × V)} (ho : Val te σ H (.ref a)) (hh : H a = some (.ins C dx fs)) (hm : fs.lookup m = none) (ha : ValA tr σ H vs) (h : sp (.ref a :: vs) H Q E) : tMeth C m sp [] E te tr σ H Q := by
  refine ho _ ⟨a, dx, fs, rfl, hh, hm, ha _ ?_⟩
  rw [List.append_nil]
  exact h
theorem c_tup (ha : ValA tr σ H vs) (hl : vs.length ≤ 1000) (k : ∀ p, H p = none → Q (.ref p) (upd H p (.tup vs))) : tTup tr σ H Q := ha _ ⟨small5 (by omega), k⟩
theorem c_lst (ha : ValA tr σ H vs) (hl : vs.length ≤ 1000) (k : ∀ p, H p = none → Q (.ref p) (upd H p (.lst vs))) : tLst tr σ H Q := ha _ ⟨small5 (by omega), k⟩
end
end Pk
namespace Pk
open PySem PySem.Spec
open PyProof.Rows L2
/-- what is known of the text's objects behind the top -/
structure Txt (w : World) (K : PySem.W.Frag) (mg : Str → Option Value) : Prop where
  c : He.SaysT fa fn ts w K
  ex : ex K = true
  m : ∃ h : Heap, K.In h ∧ h.Ns mainGlobals mg
section
variable {w : World} {K : PySem.W.Frag} {mg : Str → Option Value}
theorem Txt.fact (T : Txt w K mg) (i : Nat) {f : He.Fa} (h : fa[i]? = some f) : f.ok K = true := T.c.d.fact i h
theorem Txt.glo (T : Txt w K mg) (i : Nat) {x : Str} (h : fa[i]? = some (.glo x)) : mg x = some (.ref (He.ga K x)) := let ⟨_, X, G⟩ := T.m; He.glo_ok X G (T.fact i h)
theorem Txt.non (T : Txt w K mg) (i : Nat) {x : Str} (h : fa[i]? = some (.free x)) : mg x = none := let ⟨_, X, G⟩ := T.m; He.free_ok X G (T.fact i h)
theorem Txt.int (T : Txt w K mg) (i : Nat) {x : Str} {n : Int} (h : fa[i]? = some (.int x n)) : ∃ t, mg x = some (.int n t) := let ⟨_, X, G⟩ := T.m; He.int_ok X G (T.fact i h)
theorem Txt.str (T : Txt w K mg) (i : Nat) {x z : Str} (h : fa[i]? = some (.str x z)) : ∃ t, mg x = some (.str z t) := let ⟨_, X, G⟩ := T.m; He.str_ok X G (T.fact i h)
theorem Txt.def_ (T : Txt w K mg) (i : Nat) {d : He.DefD} (h : fn[i]? = some d) : ∃ fd, FunD K d.name d.qual d.params d.body d.scope (d.dvs K) (d.kws K) (He.fAd K d.at_) fd := T.c.d.def_ i h
theorem Txt.g_Asks (T : Txt w K mg) : mg "Asks" = some (.ref (He.ga K "Asks")) := T.glo 0 rfl
theorem Txt.g_Board (T : Txt w K mg) : mg "Board" = some (.ref (He.ga K "Board")) := T.glo 1 rfl
theorem Txt.g_Costs (T : Txt w K mg) : mg "Costs" = some (.ref (He.ga K "Costs")) := T.glo 2 rfl
theorem Txt.g_Tally (T : Txt w K mg) : mg "Tally" = some (.ref (He.ga K "Tally")) := T.glo 3 rfl
theorem Txt.g_law_both_ways (T : Txt w K mg) : mg "_law_both_ways" = some (.ref (He.ga K "_law_both_ways")) := T.glo 4 rfl
theorem Txt.g_law_cell_at (T : Txt w K mg) : mg "_law_cell_at" = some (.ref (He.ga K "_law_cell_at")) := T.glo 5 rfl
theorem Txt.g_law_great (T : Txt w K mg) : mg "_law_great" = some (.ref (He.ga K "_law_great")) := T.glo 6 rfl
theorem Txt.g_law_heaps (T : Txt w K mg) : mg "_law_heaps" = some (.ref (He.ga K "_law_heaps")) := T.glo 7 rfl
theorem Txt.g_law_leads (T : Txt w K mg) : mg "_law_leads" = some (.ref (He.ga K "_law_leads")) := T.glo 8 rfl
theorem Txt.g_law_letter (T : Txt w K mg) : mg "_law_letter" = some (.ref (He.ga K "_law_letter")) := T.glo 9 rfl
theorem Txt.g_law_list (T : Txt w K mg) : mg "_law_list" = some (.ref (He.ga K "_law_list")) := T.glo 10 rfl
theorem Txt.g_law_new (T : Txt w K mg) : mg "_law_new" = some (.ref (He.ga K "_law_new")) := T.glo 11 rfl
theorem Txt.g_law_old (T : Txt w K mg) : mg "_law_old" = some (.ref (He.ga K "_law_old")) := T.glo 12 rfl
theorem Txt.g_law_part_one (T : Txt w K mg) : mg "_law_part_one" = some (.ref (He.ga K "_law_part_one")) := T.glo 13 rfl
theorem Txt.g_law_parted (T : Txt w K mg) : mg "_law_parted" = some (.ref (He.ga K "_law_parted")) := T.glo 14 rfl
theorem Txt.g_law_pays (T : Txt w K mg) : mg "_law_pays" = some (.ref (He.ga K "_law_pays")) := T.glo 15 rfl
theorem Txt.g_law_row (T : Txt w K mg) : mg "_law_row" = some (.ref (He.ga K "_law_row")) := T.glo 16 rfl
theorem Txt.g_law_shown (T : Txt w K mg) : mg "_law_shown" = some (.ref (He.ga K "_law_shown")) := T.glo 17 rfl
theorem Txt.g_after (T : Txt w K mg) : mg "after" = some (.ref (He.ga K "after")) := T.glo 18 rfl
theorem Txt.g_are_heaps (T : Txt w K mg) : mg "are_heaps" = some (.ref (He.ga K "are_heaps")) := T.glo 19 rfl
theorem Txt.g_asks_of (T : Txt w K mg) : mg "asks_of" = some (.ref (He.ga K "asks_of")) := T.glo 20 rfl
theorem Txt.g_back (T : Txt w K mg) : mg "back" = some (.ref (He.ga K "back")) := T.glo 21 rfl
theorem Txt.g_changes_of (T : Txt w K mg) : mg "changes_of" = some (.ref (He.ga K "changes_of")) := T.glo 22 rfl
theorem Txt.g_come_to (T : Txt w K mg) : mg "come_to" = some (.ref (He.ga K "come_to")) := T.glo 23 rfl
theorem Txt.g_cost (T : Txt w K mg) : mg "cost" = some (.ref (He.ga K "cost")) := T.glo 24 rfl
theorem Txt.g_cost_table (T : Txt w K mg) : mg "cost_table" = some (.ref (He.ga K "cost_table")) := T.glo 25 rfl
theorem Txt.g_done (T : Txt w K mg) : mg "done" = some (.ref (He.ga K "done")) := T.glo 26 rfl
theorem Txt.g_floors_of (T : Txt w K mg) : mg "floors_of" = some (.ref (He.ga K "floors_of")) := T.glo 27 rfl
theorem Txt.g_is_change (T : Txt w K mg) : mg "is_change" = some (.ref (He.ga K "is_change")) := T.glo 28 rfl
theorem Txt.g_is_changes (T : Txt w K mg) : mg "is_changes" = some (.ref (He.ga K "is_changes")) := T.glo 29 rfl
theorem Txt.g_is_heap (T : Txt w K mg) : mg "is_heap" = some (.ref (He.ga K "is_heap")) := T.glo 30 rfl
theorem Txt.g_is_letter (T : Txt w K mg) : mg "is_letter" = some (.ref (He.ga K "is_letter")) := T.glo 31 rfl
theorem Txt.g_is_pair (T : Txt w K mg) : mg "is_pair" = some (.ref (He.ga K "is_pair")) := T.glo 32 rfl
theorem Txt.g_is_plain (T : Txt w K mg) : mg "is_plain" = some (.ref (He.ga K "is_plain")) := T.glo 33 rfl
theorem Txt.g_is_row (T : Txt w K mg) : mg "is_row" = some (.ref (He.ga K "is_row")) := T.glo 34 rfl
theorem Txt.g_is_turning (T : Txt w K mg) : mg "is_turning" = some (.ref (He.ga K "is_turning")) := T.glo 35 rfl
theorem Txt.g_is_whole (T : Txt w K mg) : mg "is_whole" = some (.ref (He.ga K "is_whole")) := T.glo 36 rfl
theorem Txt.g_is_within (T : Txt w K mg) : mg "is_within" = some (.ref (He.ga K "is_within")) := T.glo 37 rfl
theorem Txt.g_led (T : Txt w K mg) : mg "led" = some (.ref (He.ga K "led")) := T.glo 38 rfl
theorem Txt.g_lengths (T : Txt w K mg) : mg "lengths" = some (.ref (He.ga K "lengths")) := T.glo 39 rfl
theorem Txt.g_lesser (T : Txt w K mg) : mg "lesser" = some (.ref (He.ga K "lesser")) := T.glo 40 rfl
theorem Txt.g_longest (T : Txt w K mg) : mg "longest" = some (.ref (He.ga K "longest")) := T.glo 41 rfl
theorem Txt.g_mixed (T : Txt w K mg) : mg "mixed" = some (.ref (He.ga K "mixed")) := T.glo 42 rfl
theorem Txt.g_need_changes (T : Txt w K mg) : mg "need_changes" = some (.ref (He.ga K "need_changes")) := T.glo 43 rfl
theorem Txt.g_need_place (T : Txt w K mg) : mg "need_place" = some (.ref (He.ga K "need_place")) := T.glo 44 rfl
theorem Txt.g_need_plain (T : Txt w K mg) : mg "need_plain" = some (.ref (He.ga K "need_plain")) := T.glo 45 rfl
theorem Txt.g_need_plains (T : Txt w K mg) : mg "need_plains" = some (.ref (He.ga K "need_plains")) := T.glo 46 rfl
theorem Txt.g_need_row (T : Txt w K mg) : mg "need_row" = some (.ref (He.ga K "need_row")) := T.glo 47 rfl
theorem Txt.g_need_rows (T : Txt w K mg) : mg "need_rows" = some (.ref (He.ga K "need_rows")) := T.glo 48 rfl
theorem Txt.g_need_span (T : Txt w K mg) : mg "need_span" = some (.ref (He.ga K "need_span")) := T.glo 49 rfl
theorem Txt.g_need_turning (T : Txt w K mg) : mg "need_turning" = some (.ref (He.ga K "need_turning")) := T.glo 50 rfl
theorem Txt.g_need_window (T : Txt w K mg) : mg "need_window" = some (.ref (He.ga K "need_window")) := T.glo 51 rfl
theorem Txt.g_new_of (T : Txt w K mg) : mg "new_of" = some (.ref (He.ga K "new_of")) := T.glo 52 rfl
theorem Txt.g_new_row (T : Txt w K mg) : mg "new_row" = some (.ref (He.ga K "new_row")) := T.glo 53 rfl
theorem Txt.g_old_of (T : Txt w K mg) : mg "old_of" = some (.ref (He.ga K "old_of")) := T.glo 54 rfl
theorem Txt.g_old_row (T : Txt w K mg) : mg "old_row" = some (.ref (He.ga K "old_row")) := T.glo 55 rfl
theorem Txt.g_opposite (T : Txt w K mg) : mg "opposite" = some (.ref (He.ga K "opposite")) := T.glo 56 rfl
theorem Txt.g_paid (T : Txt w K mg) : mg "paid" = some (.ref (He.ga K "paid")) := T.glo 57 rfl
theorem Txt.g_pairs_of (T : Txt w K mg) : mg "pairs_of" = some (.ref (He.ga K "pairs_of")) := T.glo 58 rfl
theorem Txt.g_parted (T : Txt w K mg) : mg "parted" = some (.ref (He.ga K "parted")) := T.glo 59 rfl
theorem Txt.g_places_of (T : Txt w K mg) : mg "places_of" = some (.ref (He.ga K "places_of")) := T.glo 60 rfl
theorem Txt.g_shows_cost (T : Txt w K mg) : mg "shows_cost" = some (.ref (He.ga K "shows_cost")) := T.glo 61 rfl
theorem Txt.g_law (T : Txt w K mg) : mg "law" = some (.ref (He.ga K "law")) := T.glo 62 rfl
theorem Txt.g_SIZES (T : Txt w K mg) : mg "SIZES" = some (.ref (He.ga K "SIZES")) := T.glo 63 rfl
theorem Txt.n_abs (T : Txt w K mg) : mg "abs" = none := T.non 64 rfl
theorem Txt.n_all (T : Txt w K mg) : mg "all" = none := T.non 65 rfl
theorem Txt.n_bool (T : Txt w K mg) : mg "bool" = none := T.non 66 rfl
theorem Txt.n_enumerate (T : Txt w K mg) : mg "enumerate" = none := T.non 67 rfl
theorem Txt.n_int (T : Txt w K mg) : mg "int" = none := T.non 68 rfl
theorem Txt.n_isinstance (T : Txt w K mg) : mg "isinstance" = none := T.non 69 rfl
theorem Txt.n_len (T : Txt w K mg) : mg "len" = none := T.non 70 rfl
theorem Txt.n_list (T : Txt w K mg) : mg "list" = none := T.non 71 rfl
theorem Txt.n_max (T : Txt w K mg) : mg "max" = none := T.non 72 rfl
theorem Txt.n_min (T : Txt w K mg) : mg "min" = none := T.non 73 rfl
theorem Txt.n_ord (T : Txt w K mg) : mg "ord" = none := T.non 74 rfl
theorem Txt.n_range (T : Txt w K mg) : mg "range" = none := T.non 75 rfl
theorem Txt.n_sorted (T : Txt w K mg) : mg "sorted" = none := T.non 76 rfl
theorem Txt.n_str (T : Txt w K mg) : mg "str" = none := T.non 77 rfl
theorem Txt.n_tuple (T : Txt w K mg) : mg "tuple" = none := T.non 78 rfl
theorem Txt.n_zip (T : Txt w K mg) : mg "zip" = none := T.non 79 rfl
theorem Txt.c_LETTERS (T : Txt w K mg) : ∃ t, mg "LETTERS" = some (.str "abcdefghijklmnopqrstuvwxyz" t) := T.str 80 rfl
theorem Txt.c_MOST_SIGNS (T : Txt w K mg) : ∃ t, mg "MOST_SIGNS" = some (.int 48 t) := T.int 81 rfl
theorem Txt.c_MOST_LETTERS (T : Txt w K mg) : ∃ t, mg "MOST_LETTERS" = some (.int 24 t) := T.int 82 rfl
theorem Txt.c_MOST_LINES (T : Txt w K mg) : ∃ t, mg "MOST_LINES" = some (.int 96 t) := T.int 83 rfl
theorem Txt.c_MOST_CHANGES (T : Txt w K mg) : ∃ t, mg "MOST_CHANGES" = some (.int 48 t) := T.int 84 rfl
theorem Txt.cl_Board (T : Txt w K mg) : Cls K (He.ga K "Board") := He.cls_ok (T.fact 85 rfl)
theorem Txt.mk_Board (T : Txt w K mg) : Mk K (He.ga K "Board") (He.ma K (He.ga K "Board") "__init__") := He.mkr_ok (T.fact 86 rfl)
theorem Txt.na_Board_left_row (T : Txt w K mg) : NoAttr K (He.ga K "Board") "left_row" := He.noat_ok (T.fact 87 rfl)
theorem Txt.na_Board_upper_row (T : Txt w K mg) : NoAttr K (He.ga K "Board") "upper_row" := He.noat_ok (T.fact 88 rfl)
theorem Txt.na_Board_meetings (T : Txt w K mg) : NoAttr K (He.ga K "Board") "meetings" := He.noat_ok (T.fact 89 rfl)
theorem Txt.na_Board_signs (T : Txt w K mg) : NoAttr K (He.ga K "Board") "signs" := He.noat_ok (T.fact 90 rfl)
theorem Txt.na_Board_goals (T : Txt w K mg) : NoAttr K (He.ga K "Board") "goals" := He.noat_ok (T.fact 91 rfl)
theorem Txt.me_Board_lines (T : Txt w K mg) : Meth K (He.ga K "Board") "lines" (He.ma K (He.ga K "Board") "lines") := He.meth_ok (T.fact 92 rfl)
theorem Txt.cl_Tally (T : Txt w K mg) : Cls K (He.ga K "Tally") := He.cls_ok (T.fact 93 rfl)
theorem Txt.mk_Tally (T : Txt w K mg) : Mk K (He.ga K "Tally") (He.ma K (He.ga K "Tally") "__init__") := He.mkr_ok (T.fact 94 rfl)
theorem Txt.na_Tally_many (T : Txt w K mg) : NoAttr K (He.ga K "Tally") "many" := He.noat_ok (T.fact 95 rfl)
theorem Txt.na_Tally_floors (T : Txt w K mg) : NoAttr K (He.ga K "Tally") "floors" := He.noat_ok (T.fact 96 rfl)
theorem Txt.me_Tally_from_on (T : Txt w K mg) : Meth K (He.ga K "Tally") "from_on" (He.ma K (He.ga K "Tally") "from_on") := He.meth_ok (T.fact 97 rfl)
theorem Txt.me_Tally_below (T : Txt w K mg) : Meth K (He.ga K "Tally") "below" (He.ma K (He.ga K "Tally") "below") := He.meth_ok (T.fact 98 rfl)
theorem Txt.cl_Asks (T : Txt w K mg) : Cls K (He.ga K "Asks") := He.cls_ok (T.fact 99 rfl)
theorem Txt.mk_Asks (T : Txt w K mg) : Mk K (He.ga K "Asks") (He.ma K (He.ga K "Asks") "__init__") := He.mkr_ok (T.fact 100 rfl)
theorem Txt.na_Asks_tall (T : Txt w K mg) : NoAttr K (He.ga K "Asks") "tall" := He.noat_ok (T.fact 101 rfl)
theorem Txt.na_Asks_wide (T : Txt w K mg) : NoAttr K (He.ga K "Asks") "wide" := He.noat_ok (T.fact 102 rfl)
theorem Txt.na_Asks_tally (T : Txt w K mg) : NoAttr K (He.ga K "Asks") "tally" := He.noat_ok (T.fact 103 rfl)
theorem Txt.na_Asks_goals (T : Txt w K mg) : NoAttr K (He.ga K "Asks") "goals" := He.noat_ok (T.fact 104 rfl)
theorem Txt.na_Asks_starts (T : Txt w K mg) : NoAttr K (He.ga K "Asks") "starts" := He.noat_ok (T.fact 105 rfl)
theorem Txt.me_Asks_window (T : Txt w K mg) : Meth K (He.ga K "Asks") "window" (He.ma K (He.ga K "Asks") "window") := He.meth_ok (T.fact 106 rfl)
theorem Txt.me_Asks_stretch (T : Txt w K mg) : Meth K (He.ga K "Asks") "stretch" (He.ma K (He.ga K "Asks") "stretch") := He.meth_ok (T.fact 107 rfl)
theorem Txt.me_Asks_gains (T : Txt w K mg) : Meth K (He.ga K "Asks") "gains" (He.ma K (He.ga K "Asks") "gains") := He.meth_ok (T.fact 108 rfl)
theorem Txt.me_Asks_table (T : Txt w K mg) : Meth K (He.ga K "Asks") "table" (He.ma K (He.ga K "Asks") "table") := He.meth_ok (T.fact 109 rfl)
theorem Txt.cl_Costs (T : Txt w K mg) : Cls K (He.ga K "Costs") := He.cls_ok (T.fact 110 rfl)
theorem Txt.mk_Costs (T : Txt w K mg) : Mk K (He.ga K "Costs") (He.ma K (He.ga K "Costs") "__init__") := He.mkr_ok (T.fact 111 rfl)
theorem Txt.na_Costs_turned_row (T : Txt w K mg) : NoAttr K (He.ga K "Costs") "turned_row" := He.noat_ok (T.fact 112 rfl)
theorem Txt.na_Costs_goal_row (T : Txt w K mg) : NoAttr K (He.ga K "Costs") "goal_row" := He.noat_ok (T.fact 113 rfl)
theorem Txt.na_Costs_wide (T : Txt w K mg) : NoAttr K (He.ga K "Costs") "wide" := He.noat_ok (T.fact 114 rfl)
theorem Txt.na_Costs_costs (T : Txt w K mg) : NoAttr K (He.ga K "Costs") "costs" := He.noat_ok (T.fact 115 rfl)
theorem Txt.me_Costs_of (T : Txt w K mg) : Meth K (He.ga K "Costs") "of" (He.ma K (He.ga K "Costs") "of") := He.meth_ok (T.fact 116 rfl)
theorem Txt.f_is_whole (T : Txt w K mg) : ∃ fd, FunD K "is_whole" "is_whole" (defArgs s_is_whole) (defBody s_is_whole) (defScope s_is_whole) [] [] (He.ga K "is_whole") fd := T.def_ 0 (d := d_is_whole) rfl
theorem Txt.f_is_within (T : Txt w K mg) : ∃ fd, FunD K "is_within" "is_within" (defArgs s_is_within) (defBody s_is_within) (defScope s_is_within) [] [] (He.ga K "is_within") fd := T.def_ 1 (d := d_is_within) rfl
theorem Txt.f_is_letter (T : Txt w K mg) : ∃ fd, FunD K "is_letter" "is_letter" (defArgs s_is_letter) (defBody s_is_letter) (defScope s_is_letter) [] [] (He.ga K "is_letter") fd := T.def_ 2 (d := d_is_letter) rfl
theorem Txt.f_is_row (T : Txt w K mg) : ∃ fd, FunD K "is_row" "is_row" (defArgs s_is_row) (defBody s_is_row) (defScope s_is_row) [] [] (He.ga K "is_row") fd := T.def_ 3 (d := d_is_row) rfl
theorem Txt.f_is_plain (T : Txt w K mg) : ∃ fd, FunD K "is_plain" "is_plain" (defArgs s_is_plain) (defBody s_is_plain) (defScope s_is_plain) [] [] (He.ga K "is_plain") fd := T.def_ 4 (d := d_is_plain) rfl
theorem Txt.f_need_row (T : Txt w K mg) : ∃ fd, FunD K "need_row" "need_row" (defArgs s_need_row) (defBody s_need_row) (defScope s_need_row) [] [] (He.ga K "need_row") fd := T.def_ 5 (d := d_need_row) rfl
theorem Txt.f_need_rows (T : Txt w K mg) : ∃ fd, FunD K "need_rows" "need_rows" (defArgs s_need_rows) (defBody s_need_rows) (defScope s_need_rows) [] [] (He.ga K "need_rows") fd := T.def_ 6 (d := d_need_rows) rfl
theorem Txt.f_need_plain (T : Txt w K mg) : ∃ fd, FunD K "need_plain" "need_plain" (defArgs s_need_plain) (defBody s_need_plain) (defScope s_need_plain) [] [] (He.ga K "need_plain") fd := T.def_ 7 (d := d_need_plain) rfl
theorem Txt.f_need_span (T : Txt w K mg) : ∃ fd, FunD K "need_span" "need_span" (defArgs s_need_span) (defBody s_need_span) (defScope s_need_span) [] [] (He.ga K "need_span") fd := T.def_ 8 (d := d_need_span) rfl
theorem Txt.f_parted (T : Txt w K mg) : ∃ fd, FunD K "parted" "parted" (defArgs s_parted) (defBody s_parted) (defScope s_parted) [] [] (He.ga K "parted") fd := T.def_ 9 (d := d_parted) rfl
theorem Txt.f_places_of (T : Txt w K mg) : ∃ fd, FunD K "places_of" "places_of" (defArgs s_places_of) (defBody s_places_of) (defScope s_places_of) [] [] (He.ga K "places_of") fd := T.def_ 10 (d := d_places_of) rfl
theorem Txt.f_led (T : Txt w K mg) : ∃ fd, FunD K "led" "led" (defArgs s_led) (defBody s_led) (defScope s_led) [] [] (He.ga K "led") fd := T.def_ 11 (d := d_led) rfl
theorem Txt.f_Board_init (T : Txt w K mg) : ∃ fd, FunD K "__init__" "Board.__init__" (defArgs s_Board_init) (defBody s_Board_init) (defScope s_Board_init) [] [] (He.ma K (He.ga K "Board") "__init__") fd := T.def_ 12 (d := d_Board_init) rfl
theorem Txt.f_Board_lines (T : Txt w K mg) : ∃ fd, FunD K "lines" "Board.lines" (defArgs s_Board_lines) (defBody s_Board_lines) (defScope s_Board_lines) [] [] (He.ma K (He.ga K "Board") "lines") fd := T.def_ 13 (d := d_Board_lines) rfl
theorem Txt.f_is_turning (T : Txt w K mg) : ∃ fd, FunD K "is_turning" "is_turning" (defArgs s_is_turning) (defBody s_is_turning) (defScope s_is_turning) [] [] (He.ga K "is_turning") fd := T.def_ 14 (d := d_is_turning) rfl
theorem Txt.f_need_turning (T : Txt w K mg) : ∃ fd, FunD K "need_turning" "need_turning" (defArgs s_need_turning) (defBody s_need_turning) (defScope s_need_turning) [] [] (He.ga K "need_turning") fd := T.def_ 15 (d := d_need_turning) rfl
theorem Txt.f_need_place (T : Txt w K mg) : ∃ fd, FunD K "need_place" "need_place" (defArgs s_need_place) (defBody s_need_place) (defScope s_need_place) [] [] (He.ga K "need_place") fd := T.def_ 16 (d := d_need_place) rfl
theorem Txt.f_opposite (T : Txt w K mg) : ∃ fd, FunD K "opposite" "opposite" (defArgs s_opposite) (defBody s_opposite) (defScope s_opposite) [] [] (He.ga K "opposite") fd := T.def_ 17 (d := d_opposite) rfl
theorem Txt.f_mixed (T : Txt w K mg) : ∃ fd, FunD K "mixed" "mixed" (defArgs s_mixed) (defBody s_mixed) (defScope s_mixed) [] [] (He.ga K "mixed") fd := T.def_ 18 (d := d_mixed) rfl
theorem Txt.f_floors_of (T : Txt w K mg) : ∃ fd, FunD K "floors_of" "floors_of" (defArgs s_floors_of) (defBody s_floors_of) (defScope s_floors_of) [] [] (He.ga K "floors_of") fd := T.def_ 19 (d := d_floors_of) rfl
theorem Txt.f_lesser (T : Txt w K mg) : ∃ fd, FunD K "lesser" "lesser" (defArgs s_lesser) (defBody s_lesser) (defScope s_lesser) [] [] (He.ga K "lesser") fd := T.def_ 20 (d := d_lesser) rfl
theorem Txt.f_Tally_init (T : Txt w K mg) : ∃ fd, FunD K "__init__" "Tally.__init__" (defArgs s_Tally_init) (defBody s_Tally_init) (defScope s_Tally_init) [] [] (He.ma K (He.ga K "Tally") "__init__") fd := T.def_ 21 (d := d_Tally_init) rfl
theorem Txt.f_Tally_from_on (T : Txt w K mg) : ∃ fd, FunD K "from_on" "Tally.from_on" (defArgs s_Tally_from_on) (defBody s_Tally_from_on) (defScope s_Tally_from_on) [] [] (He.ma K (He.ga K "Tally") "from_on") fd := T.def_ 22 (d := d_Tally_from_on) rfl
theorem Txt.f_Tally_below (T : Txt w K mg) : ∃ fd, FunD K "below" "Tally.below" (defArgs s_Tally_below) (defBody s_Tally_below) (defScope s_Tally_below) [] [] (He.ma K (He.ga K "Tally") "below") fd := T.def_ 23 (d := d_Tally_below) rfl
theorem Txt.f_need_window (T : Txt w K mg) : ∃ fd, FunD K "need_window" "need_window" (defArgs s_need_window) (defBody s_need_window) (defScope s_need_window) [] [] (He.ga K "need_window") fd := T.def_ 24 (d := d_need_window) rfl
theorem Txt.f_Asks_init (T : Txt w K mg) : ∃ fd, FunD K "__init__" "Asks.__init__" (defArgs s_Asks_init) (defBody s_Asks_init) (defScope s_Asks_init) [] [] (He.ma K (He.ga K "Asks") "__init__") fd := T.def_ 25 (d := d_Asks_init) rfl
theorem Txt.f_Asks_window (T : Txt w K mg) : ∃ fd, FunD K "window" "Asks.window" (defArgs s_Asks_window) (defBody s_Asks_window) (defScope s_Asks_window) [] [] (He.ma K (He.ga K "Asks") "window") fd := T.def_ 26 (d := d_Asks_window) rfl
theorem Txt.f_Asks_stretch (T : Txt w K mg) : ∃ fd, FunD K "stretch" "Asks.stretch" (defArgs s_Asks_stretch) (defBody s_Asks_stretch) (defScope s_Asks_stretch) [] [] (He.ma K (He.ga K "Asks") "stretch") fd := T.def_ 27 (d := d_Asks_stretch) rfl
theorem Txt.f_Asks_gains (T : Txt w K mg) : ∃ fd, FunD K "gains" "Asks.gains" (defArgs s_Asks_gains) (defBody s_Asks_gains) (defScope s_Asks_gains) [] [] (He.ma K (He.ga K "Asks") "gains") fd := T.def_ 28 (d := d_Asks_gains) rfl
theorem Txt.f_Asks_table (T : Txt w K mg) : ∃ fd, FunD K "table" "Asks.table" (defArgs s_Asks_table) (defBody s_Asks_table) (defScope s_Asks_table) [] [] (He.ma K (He.ga K "Asks") "table") fd := T.def_ 29 (d := d_Asks_table) rfl
theorem Txt.f_asks_of (T : Txt w K mg) : ∃ fd, FunD K "asks_of" "asks_of" (defArgs s_asks_of) (defBody s_asks_of) (defScope s_asks_of) [] [] (He.ga K "asks_of") fd := T.def_ 30 (d := d_asks_of) rfl
theorem Txt.f_is_change (T : Txt w K mg) : ∃ fd, FunD K "is_change" "is_change" (defArgs s_is_change) (defBody s_is_change) (defScope s_is_change) [] [] (He.ga K "is_change") fd := T.def_ 31 (d := d_is_change) rfl
theorem Txt.f_is_changes (T : Txt w K mg) : ∃ fd, FunD K "is_changes" "is_changes" (defArgs s_is_changes) (defBody s_is_changes) (defScope s_is_changes) [] [] (He.ga K "is_changes") fd := T.def_ 32 (d := d_is_changes) rfl
theorem Txt.f_need_changes (T : Txt w K mg) : ∃ fd, FunD K "need_changes" "need_changes" (defArgs s_need_changes) (defBody s_need_changes) (defScope s_need_changes) [] [] (He.ga K "need_changes") fd := T.def_ 33 (d := d_need_changes) rfl
theorem Txt.f_old_of (T : Txt w K mg) : ∃ fd, FunD K "old_of" "old_of" (defArgs s_old_of) (defBody s_old_of) (defScope s_old_of) [] [] (He.ga K "old_of") fd := T.def_ 34 (d := d_old_of) rfl
theorem Txt.f_new_of (T : Txt w K mg) : ∃ fd, FunD K "new_of" "new_of" (defArgs s_new_of) (defBody s_new_of) (defScope s_new_of) [] [] (He.ga K "new_of") fd := T.def_ 35 (d := d_new_of) rfl
theorem Txt.f_old_row (T : Txt w K mg) : ∃ fd, FunD K "old_row" "old_row" (defArgs s_old_row) (defBody s_old_row) (defScope s_old_row) [] [] (He.ga K "old_row") fd := T.def_ 36 (d := d_old_row) rfl
theorem Txt.f_new_row (T : Txt w K mg) : ∃ fd, FunD K "new_row" "new_row" (defArgs s_new_row) (defBody s_new_row) (defScope s_new_row) [] [] (He.ga K "new_row") fd := T.def_ 37 (d := d_new_row) rfl
theorem Txt.f_come_to (T : Txt w K mg) : ∃ fd, FunD K "come_to" "come_to" (defArgs s_come_to) (defBody s_come_to) (defScope s_come_to) [] [] (He.ga K "come_to") fd := T.def_ 38 (d := d_come_to) rfl
theorem Txt.f_paid (T : Txt w K mg) : ∃ fd, FunD K "paid" "paid" (defArgs s_paid) (defBody s_paid) (defScope s_paid) [] [] (He.ga K "paid") fd := T.def_ 39 (d := d_paid) rfl
theorem Txt.f_done (T : Txt w K mg) : ∃ fd, FunD K "done" "done" (defArgs s_done) (defBody s_done) (defScope s_done) [] [] (He.ga K "done") fd := T.def_ 40 (d := d_done) rfl
theorem Txt.f_back (T : Txt w K mg) : ∃ fd, FunD K "back" "back" (defArgs s_back) (defBody s_back) (defScope s_back) [] [] (He.ga K "back") fd := T.def_ 41 (d := d_back) rfl
theorem Txt.f_after (T : Txt w K mg) : ∃ fd, FunD K "after" "after" (defArgs s_after) (defBody s_after) (defScope s_after) [] [] (He.ga K "after") fd := T.def_ 42 (d := d_after) rfl
theorem Txt.f_lengths (T : Txt w K mg) : ∃ fd, FunD K "lengths" "lengths" (defArgs s_lengths) (defBody s_lengths) (defScope s_lengths) [] [] (He.ga K "lengths") fd := T.def_ 43 (d := d_lengths) rfl
theorem Txt.f_longest (T : Txt w K mg) : ∃ fd, FunD K "longest" "longest" (defArgs s_longest) (defBody s_longest) (defScope s_longest) [] [] (He.ga K "longest") fd := T.def_ 44 (d := d_longest) rfl
theorem Txt.f_is_pair (T : Txt w K mg) : ∃ fd, FunD K "is_pair" "is_pair" (defArgs s_is_pair) (defBody s_is_pair) (defScope s_is_pair) [] [] (He.ga K "is_pair") fd := T.def_ 45 (d := d_is_pair) rfl
theorem Txt.f_pairs_of (T : Txt w K mg) : ∃ fd, FunD K "pairs_of" "pairs_of" (defArgs s_pairs_of) (defBody s_pairs_of) (defScope s_pairs_of) [] [] (He.ga K "pairs_of") fd := T.def_ 46 (d := d_pairs_of) rfl
theorem Txt.f_is_heap (T : Txt w K mg) : ∃ fd, FunD K "is_heap" "is_heap" (defArgs s_is_heap) (defBody s_is_heap) (defScope s_is_heap) [] [] (He.ga K "is_heap") fd := T.def_ 47 (d := d_is_heap) rfl
theorem Txt.f_are_heaps (T : Txt w K mg) : ∃ fd, FunD K "are_heaps" "are_heaps" (defArgs s_are_heaps) (defBody s_are_heaps) (defScope s_are_heaps) [] [] (He.ga K "are_heaps") fd := T.def_ 48 (d := d_are_heaps) rfl
theorem Txt.f_need_plains (T : Txt w K mg) : ∃ fd, FunD K "need_plains" "need_plains" (defArgs s_need_plains) (defBody s_need_plains) (defScope s_need_plains) [] [] (He.ga K "need_plains") fd := T.def_ 49 (d := d_need_plains) rfl
theorem Txt.f_cost (T : Txt w K mg) : ∃ fd, FunD K "cost" "cost" (defArgs s_cost) (defBody s_cost) (defScope s_cost) [] [] (He.ga K "cost") fd := T.def_ 50 (d := d_cost) rfl
theorem Txt.f_Costs_init (T : Txt w K mg) : ∃ fd, FunD K "__init__" "Costs.__init__" (defArgs s_Costs_init) (defBody s_Costs_init) (defScope s_Costs_init) [] [] (He.ma K (He.ga K "Costs") "__init__") fd := T.def_ 51 (d := d_Costs_init) rfl
theorem Txt.f_Costs_of (T : Txt w K mg) : ∃ fd, FunD K "of" "Costs.of" (defArgs s_Costs_of) (defBody s_Costs_of) (defScope s_Costs_of) [] [] (He.ma K (He.ga K "Costs") "of") fd := T.def_ 52 (d := d_Costs_of) rfl
theorem Txt.f_cost_table (T : Txt w K mg) : ∃ fd, FunD K "cost_table" "cost_table" (defArgs s_cost_table) (defBody s_cost_table) (defScope s_cost_table) [] [] (He.ga K "cost_table") fd := T.def_ 53 (d := d_cost_table) rfl
theorem Txt.f_changes_of (T : Txt w K mg) : ∃ fd, FunD K "changes_of" "changes_of" (defArgs s_changes_of) (defBody s_changes_of) (defScope s_changes_of) [] [] (He.ga K "changes_of") fd := T.def_ 54 (d := d_changes_of) rfl
theorem Txt.f_shows_cost (T : Txt w K mg) : ∃ fd, FunD K "shows_cost" "shows_cost" (defArgs s_shows_cost) (defBody s_shows_cost) (defScope s_shows_cost) [] [] (He.ga K "shows_cost") fd := T.def_ 55 (d := d_shows_cost) rfl
theorem Txt.f_law_cell_at (T : Txt w K mg) : ∃ fd, FunD K "_law_cell_at" "_law_cell_at" (defArgs s_law_cell_at) (defBody s_law_cell_at) (defScope s_law_cell_at) [] [] (He.ga K "_law_cell_at") fd := T.def_ 56 (d := d_law_cell_at) rfl
theorem Txt.f_law_great (T : Txt w K mg) : ∃ fd, FunD K "_law_great" "_law_great" (defArgs s_law_great) (defBody s_law_great) (defScope s_law_great) [] [] (He.ga K "_law_great") fd := T.def_ 57 (d := d_law_great) rfl
theorem Txt.f_law_letter (T : Txt w K mg) : ∃ fd, FunD K "_law_letter" "_law_letter" (defArgs s_law_letter) (defBody s_law_letter) (defScope s_law_letter) [] [] (He.ga K "_law_letter") fd := T.def_ 58 (d := d_law_letter) rfl
theorem Txt.f_law_row (T : Txt w K mg) : ∃ fd, FunD K "_law_row" "_law_row" (defArgs s_law_row) (defBody s_law_row) (defScope s_law_row) [] [] (He.ga K "_law_row") fd := T.def_ 59 (d := d_law_row) rfl
theorem Txt.f_law_list (T : Txt w K mg) : ∃ fd, FunD K "_law_list" "_law_list" (defArgs s_law_list) (defBody s_law_list) (defScope s_law_list) [] [] (He.ga K "_law_list") fd := T.def_ 60 (d := d_law_list) rfl
theorem Txt.f_law_new (T : Txt w K mg) : ∃ fd, FunD K "_law_new" "_law_new" (defArgs s_law_new) (defBody s_law_new) (defScope s_law_new) [] [] (He.ga K "_law_new") fd := T.def_ 61 (d := d_law_new) rfl
theorem Txt.f_law_old (T : Txt w K mg) : ∃ fd, FunD K "_law_old" "_law_old" (defArgs s_law_old) (defBody s_law_old) (defScope s_law_old) [] [] (He.ga K "_law_old") fd := T.def_ 62 (d := d_law_old) rfl
theorem Txt.f_law_pays (T : Txt w K mg) : ∃ fd, FunD K "_law_pays" "_law_pays" (defArgs s_law_pays) (defBody s_law_pays) (defScope s_law_pays) [] [] (He.ga K "_law_pays") fd := T.def_ 63 (d := d_law_pays) rfl
theorem Txt.f_law_parted (T : Txt w K mg) : ∃ fd, FunD K "_law_parted" "_law_parted" (defArgs s_law_parted) (defBody s_law_parted) (defScope s_law_parted) [] [] (He.ga K "_law_parted") fd := T.def_ 64 (d := d_law_parted) rfl
theorem Txt.f_law_heaps (T : Txt w K mg) : ∃ fd, FunD K "_law_heaps" "_law_heaps" (defArgs s_law_heaps) (defBody s_law_heaps) (defScope s_law_heaps) [] [] (He.ga K "_law_heaps") fd := T.def_ 65 (d := d_law_heaps) rfl
theorem Txt.f_law_part_one (T : Txt w K mg) : ∃ fd, FunD K "_law_part_one" "_law_part_one" (defArgs s_law_part_one) (defBody s_law_part_one) (defScope s_law_part_one) [] [] (He.ga K "_law_part_one") fd := T.def_ 66 (d := d_law_part_one) rfl
theorem Txt.f_law_leads (T : Txt w K mg) : ∃ fd, FunD K "_law_leads" "_law_leads" (defArgs s_law_leads) (defBody s_law_leads) (defScope s_law_leads) [] [] (He.ga K "_law_leads") fd := T.def_ 67 (d := d_law_leads) rfl
theorem Txt.f_law_shown (T : Txt w K mg) : ∃ fd, FunD K "_law_shown" "_law_shown" (defArgs s_law_shown) (defBody s_law_shown) (defScope s_law_shown) [] [] (He.ga K "_law_shown") fd := T.def_ 68 (d := d_law_shown) rfl
theorem Txt.f_law_both_ways (T : Txt w K mg) : ∃ fd, FunD K "_law_both_ways" "_law_both_ways" (defArgs s_law_both_ways) (defBody s_law_both_ways) (defScope s_law_both_ways) [] [] (He.ga K "_law_both_ways") fd := T.def_ 69 (d := d_law_both_ways) rfl
theorem Txt.f_law (T : Txt w K mg) : ∃ fd, FunD K "law" "law" (defArgs s_law) (defBody s_law) (defScope s_law) [] [] (He.ga K "law") fd := T.def_ 70 (d := d_law) rfl
end
/-! ### a def that keeps its promise, ready to be called -/
structure Df (P : Program) (w : World) (K : PySem.W.Frag) (mg : Str → Option Value) (base : Heap) (k : Nat) (f : Addr) (ps : List Str) (sp : Sp) : Prop where
  ex : ∃ fd : FuncData, FnOk P w K mg base CX0 k f fd ps sp ∧ Binds K fd ps []
  kp : PySem.W.keepIn K (.ref f) = true
section
variable {P : Program} {w : World} {K : PySem.W.Frag} {mg : Str → Option Value} {base : Heap}
theorem df_of {x qual : Str} {st : Stmt} {f : Addr} {N ps : List Str} {k : Nat} {sp : Sp} {t : TS} (F : ∃ fd, FunD K x qual (defArgs st) (defBody st) (defScope st) [] [] f fd) (S : FnScope N ps (defScope st))
    (hb : ∀ (kV doc pm : Value) (an : Option Addr) (cdv ct : Value) (us : List Value), us.length = ps.length → bindArgs (PySem.W.fnOf x qual (defArgs st) (defBody st) (defScope st) .none kV doc pm an cdv ct) ⟨us, []⟩ = pure (ps.zip us))
    (len : ∀ vs H Q E, sp vs H Q E → vs.length = ps.length)
    (walk : ∀ (cdv : Value) (A : Around) (outer : List Env) (s : Shared) (H : Hp) (E : XK), Room k (A.deeper (envOfC qual (defScope st) s.heap.objs.size f cdv)) → PSs (cxOf CX0 P w K mg base N qual (defScope st) f cdv A outer s H E).nox (defBody st) t)
    (read : ∀ vs H Q E, sp vs H Q E → t { nx := fun _ H' => Q .non H', rt := Q } (start N vs) H) : Df P w K mg base (k + 1) f ps sp := by
  obtain ⟨fd, F⟩ := F
  exact ⟨⟨fd, F.ok S len fun cdv A outer s H vs Q E hr h => ⟨t, (walk cdv A outer s H E hr).nox, read vs H Q E h⟩, F.bindsN hb⟩, F.kp⟩
theorem Df.mono {k j : Nat} {f : Addr} {ps : List Str} {sp : Sp} (D : Df P w K mg base k f ps sp) (h : k ≤ j) : Df P w K mg base j f ps sp := let ⟨⟨fd, a, b⟩, c⟩ := D; ⟨⟨fd, a.mono h, b⟩, c⟩
theorem Df.imp {k : Nat} {f : Addr} {ps : List Str} {sp sp' : Sp} (D : Df P w K mg base k f ps sp) (h : ∀ vs H Q E, sp' vs H Q E → sp vs H Q E) : Df P w K mg base k f ps sp' := let ⟨⟨fd, a, b⟩, c⟩ := D; ⟨⟨fd, a.imp h, b⟩, c⟩
end
end Pk
namespace Pk
open PySem PySem.Spec
open PyProof.Rows L2
/-! ### readings by short names -/
abbrev oAdd : R2 := rI0 fun i j => .int (i + j)
abbrev oSub : R2 := rI0 fun i j => .int (i - j)
abbrev oMul : R2 := rI CMul fun i j => .int (i * j)
abbrev oFdv : R2 := rI CDiv fun i j => .int (i / j)
abbrev oMod : R2 := rI (fun _ j => 0 < j) fun i j => .int (i % j)
abbrev oPow : R2 := rI CPow fun i j => .int (i ^ j.toNat)
abbrev oLt : R2 := rI0 fun i j => .bl (decide (i < j))
abbrev oLe : R2 := rI0 fun i j => .bl (decide (i ≤ j))
abbrev oGt : R2 := rI0 fun i j => .bl (decide (j < i))
abbrev oGe : R2 := rI0 fun i j => .bl (decide (j ≤ i))
abbrev oNeg : V → Hp → VK → Prop := rU fun i => .int (-i)
def oCatS : R2 := fun x y H Q => ∃ i j, x = .str i ∧ y = .str j ∧ i.length + j.length ≤ sizeLine ∧ Q (.str (i ++ j)) H
theorem op_catS {X : Cx} : OpR X (binaryOp .Add) oCatS := op_add_str
def oCatP : TIp := fun x y H Q => ∃ i j, x = .str i ∧ y = .str j ∧ i.length + j.length ≤ sizeLine ∧ Q (.str (i ++ j)) H
theorem ip_addS {X : Cx} : PIp X .Add oCatP := fun pins s σ H x y v u Q I rx ry h => iop_add_str pins s σ H x y v u Q I rx ry h
def cLenS : List V → Hp → VK → Prop := fun xs H Q => ∃ z, xs = [.str z] ∧ z.length ≤ sizeLine ∧ Q (.int z.length) H
theorem cl_lenS {X : Cx} : CallR X (.builtin "len") cLenS := call_len_str
def cLenL (K : PySem.W.Frag) : List V → Hp → VK → Prop := fun xs H Q => ∃ p ys, xs = [.ref p] ∧ (SqL K H p ys ∨ SqT K H p ys) ∧ Q (.int ys.length) H
theorem cl_lenL {X : Cx} : CallR X (.builtin "len") (cLenL X.K) := call_len_seq
def cAbs : List V → Hp → VK → Prop := fun xs H Q => ∃ i, xs = [.int i] ∧ Q (.int (if i < 0 then -i else i)) H
theorem cl_abs {X : Cx} : CallR X (.builtin "abs") cAbs := call_abs
def cMax2 : List V → Hp → VK → Prop := fun xs H Q => ∃ i j, xs = [.int i, .int j] ∧ Q (.int (if j > i then j else i)) H
theorem cl_max2 {X : Cx} (hc : X.calm = true) : CallR X (.builtin "max") cMax2 := call_max2 hc
def cInt1 : List V → Hp → VK → Prop := fun xs H Q => (∃ i, xs = [.int i] ∧ Q (.int i) H) ∨ ∃ k, xs = [.bl k] ∧ Q (.int (if k then 1 else 0)) H
theorem cl_int1 {X : Cx} : CallR X (.type "int") cInt1 := call_int1
def cOrd : List V → Hp → VK → Prop := fun xs H Q => ∃ x, xs = [.str x] ∧ x.length = 1 ∧ Q (.int (x.cps.getD 0 0 : Nat)) H
theorem cl_ord {X : Cx} : CallR X (.builtin "ord") cOrd := call_ord
def cListOf (K : PySem.W.Frag) : List V → Hp → VK → Prop := fun xs H Q => ∃ p ys, xs = [.ref p] ∧ (SqL K H p ys ∨ SqT K H p ys) ∧ ∀ l, H l = none → Q (.ref l) (upd H l (.lst ys))
theorem cl_listOf {X : Cx} : CallR X (.type "list") (cListOf X.K) := call_list_of
def cJoin (K : PySem.W.Frag) : V → List V → Hp → VK → Prop := fun x xs H Q => ∃ a p, ∃ ys : List Str, x = .str a ∧ xs = [.ref p] ∧ (SqL K H p (ys.map V.str) ∨ SqT K H p (ys.map V.str)) ∧ (ys.map (·.length)).sum + ys.length * a.length ≤ 16777216 ∧ Q (.str (Txt.join a ys)) H
section
variable {K : PySem.W.Frag} {σ : L2.St} {H : Hp} {ta tb tc te : TE} {tr : TA} {x y z v : V} {vs : List V} {Q : VK} {t u : TT} {E : XK} {D : Ends} {t1 t2 ts tu : TS} {i j : Nat}
theorem val_bl {b c : Bool} (h : Val te σ H (.bl b)) (e : b = c) : Val te σ H (.bl c) := e ▸ h
theorem val_lenS {l : List Nat} (h : Val ta σ H (.str (tx l))) (hl : l.length ≤ 100000) : Val (tCB cLenS (tCons ta tNil)) σ H (.int l.length) := fun _ q => h _ ⟨tx l, rfl, by rw [tx_len]; exact small5 hl, by rw [tx_len]; exact q⟩
theorem val_lenL {p : Addr} {xs : List V} (h : Val ta σ H (.ref p)) (hx : H p = some (.lst xs)) : Val (tCB (cLenL K) (tCons ta tNil)) σ H (.int xs.length) := fun _ q => h _ ⟨p, xs, rfl, .inl (SqL.of hx), q⟩
theorem val_lenT {p : Addr} {xs : List V} (h : Val ta σ H (.ref p)) (hx : H p = some (.tup xs)) : Val (tCB (cLenL K) (tCons ta tNil)) σ H (.int xs.length) := fun _ q => h _ ⟨p, xs, rfl, .inr (SqT.of hx), q⟩
theorem val_lenQ {p : Addr} {xs : List V} (h : Val ta σ H (.ref p)) (hx : SqL K H p xs) : Val (tCB (cLenL K) (tCons ta tNil)) σ H (.int xs.length) := fun _ q => h _ ⟨p, xs, rfl, .inl hx, q⟩
theorem val_max2 {a b : Int} (h : Val ta σ H (.int a)) (k : Val tb σ H (.int b)) : Val (tCB cMax2 (tCons ta (tCons tb tNil))) σ H (.int (if b > a then b else a)) := fun _ q => h _ (k _ ⟨a, b, rfl, q⟩)
theorem val_min3 {a b c : Int} (h : Val ta σ H (.int a)) (k : Val tb σ H (.int b)) (l : Val tc σ H (.int c)) : Val (tCB rMin3 (tCons ta (tCons tb (tCons tc tNil)))) σ H (.int (mn3 a b c)) := fun _ q => h _ (k _ (l _ ⟨a, b, c, rfl, q⟩))
theorem val_abs {a : Int} (h : Val ta σ H (.int a)) : Val (tCB cAbs (tCons ta tNil)) σ H (.int (if a < 0 then -a else a)) := fun _ q => h _ ⟨a, rfl, q⟩
theorem val_intB {b : Bool} (h : Val ta σ H (.bl b)) : Val (tCB cInt1 (tCons ta tNil)) σ H (.int (if b then 1 else 0)) := fun _ q => h _ (.inr ⟨b, rfl, q⟩)
theorem val_ord {c : Nat} (h : Val ta σ H (.str (tx [c]))) : Val (tCB cOrd (tCons ta tNil)) σ H (.int (c : Int)) := fun _ q => h _ ⟨tx [c], rfl, rfl, q⟩
theorem val_catS {a b : List Nat} (h : Val ta σ H (.str (tx a))) (k : Val tb σ H (.str (tx b))) (hl : a.length + b.length ≤ 100000) : Val (tOp oCatS ta tb) σ H (.str (tx (a ++ b))) :=
  fun _ q => h _ (k _ ⟨tx a, tx b, rfl, rfl, by rw [tx_len, tx_len]; exact small5 hl, by rw [tx_app]; exact q⟩)
theorem val_inS {c : Nat} {l : Str} (h : Val ta σ H (.str (tx [c]))) (k : Val tb σ H (.str l)) : Val (tOp rInS ta tb) σ H (.bl (decide (c ∈ l.cps.toList))) := fun _ q => h _ (k _ ⟨c, l, rfl, rfl, q⟩)
theorem val_notInS {c : Nat} {l : Str} (h : Val ta σ H (.str (tx [c]))) (k : Val tb σ H (.str l)) : Val (tOp rNotInS ta tb) σ H (.bl (!decide (c ∈ l.cps.toList))) := fun _ q => h _ (k _ ⟨c, l, rfl, rfl, q⟩)
/-- isinstance with one built-in class -/
theorem val_isi {c : V} {tt uu : Value} {b : Bool} (h : Val ta σ H x) (k : Val tb σ H c) (hc : ClsV c uu) (hx : TyX K H x tt) (e : PySem.W.kitOne K tt uu = some b) : Val (tCB (rIsi K) (tCons ta (tCons tb tNil))) σ H (.bl b) := fun _ q => h _ (k _ ⟨x, c, tt, uu, b, rfl, hc, hx, e, q⟩)
/-! ### statements, something behind -/
theorem x_set (h : Val te σ H v) (k : tu D (σ.set i (some v)) H) : tSeq (tAsg te (gName i)) tu D σ H := h _ k
theorem x_setC (k : te σ H fun v H1 => tu D (σ.set i (some v)) H1) : tSeq (tAsg te (gName i)) tu D σ H := k
theorem x_dropC (k : te σ H fun _ H1 => tu D σ H1) : tSeq (tDrop te) tu D σ H := k
theorem y_dropC (k : te σ H fun _ H1 => D.nx σ H1) : tDrop te D σ H := k
theorem y_set (h : Val te σ H v) (k : D.nx (σ.set i (some v)) H) : tAsg te (gName i) D σ H := h _ k
theorem y_setC (k : te σ H fun v H1 => D.nx (σ.set i (some v)) H1) : tAsg te (gName i) D σ H := k
theorem x_if {b : Bool} (h : Ans t σ H b) (h1 : b = true → t1 { D with nx := tu D } σ H) (h2 : b = false → t2 { D with nx := tu D } σ H) : tSeq (tIfS t t1 t2) tu D σ H := h _ (by
  cases b with
  | true => exact h1 rfl
  | false => exact h2 rfl)
theorem y_if {b : Bool} (h : Ans t σ H b) (h1 : b = true → t1 D σ H) (h2 : b = false → t2 D σ H) : tIfS t t1 t2 D σ H := h _ (by
  cases b with
  | true => exact h1 rfl
  | false => exact h2 rfl)
/-- a test that is known to be no: a refusal that does not come -/
theorem x_no (h : Ans t σ H false) (k : tu D σ H) : tSeq (tIfS t t1 tNext) tu D σ H := h _ k
theorem y_no (h : Ans t σ H false) (k : D.nx σ H) : tIfS t t1 tNext D σ H := h _ k
theorem x_when {b : Bool} (h : Ans t σ H b) (h1 : b = true → t1 { D with nx := tu D } σ H) (h2 : b = false → tu D σ H) : tSeq (tIfS t t1 tNext) tu D σ H := x_if h h1 h2
theorem y_when {b : Bool} (h : Ans t σ H b) (h1 : b = true → t1 D σ H) (h2 : b = false → D.nx σ H) : tIfS t t1 tNext D σ H := y_if h h1 h2
theorem x_ret (h : Val te σ H v) (k : D.rt v H) : tRet te D σ H := h _ k
theorem x_retC (k : te σ H D.rt) : tRet te D σ H := k
theorem x_augI {f : Int → Int → Int} {a b : Int} (hx : σ[i]? = some (some (.int a))) (h : Val te σ H (.int b)) (k : tu D (σ.set i (some (.int (f a b)))) H) : tSeq (tAug i te (ipI f)) tu D σ H := ⟨_, hx, h _ ⟨a, b, rfl, rfl, k⟩⟩
theorem y_augI {f : Int → Int → Int} {a b : Int} (hx : σ[i]? = some (some (.int a))) (h : Val te σ H (.int b)) (k : D.nx (σ.set i (some (.int (f a b)))) H) : tAug i te (ipI f) D σ H := ⟨_, hx, h _ ⟨a, b, rfl, rfl, k⟩⟩
theorem x_augS {a b : List Nat} (hx : σ[i]? = some (some (.str (tx a)))) (h : Val te σ H (.str (tx b))) (hl : a.length + b.length ≤ 100000) (k : tu D (σ.set i (some (.str (tx (a ++ b))))) H) : tSeq (tAug i te oCatP) tu D σ H :=
  ⟨_, hx, h _ ⟨tx a, tx b, rfl, rfl, by rw [tx_len, tx_len]; exact small5 hl, by rw [tx_app]; exact k⟩⟩
theorem y_augS {a b : List Nat} (hx : σ[i]? = some (some (.str (tx a)))) (h : Val te σ H (.str (tx b))) (hl : a.length + b.length ≤ 100000) (k : D.nx (σ.set i (some (.str (tx (a ++ b))))) H) : tAug i te oCatP D σ H :=
  ⟨_, hx, h _ ⟨tx a, tx b, rfl, rfl, by rw [tx_len, tx_len]; exact small5 hl, by rw [tx_app]; exact k⟩⟩
/-- l.append(e) -/
theorem x_app {l : Addr} {xs : List V} (ho : Val ta σ H (.ref l)) (h : Val te σ H v) (hl : H l = some (.lst xs)) (hz : xs.length < 100000) (k : tu D σ (upd H l (.lst (xs ++ [v])))) : tSeq (tDrop (tBM K "list" rAppend ta (tCons te tNil))) tu D σ H :=
  ho _ ⟨.inl ⟨rfl, _, SqL.of hl⟩, h _ ⟨l, xs, v, rfl, rfl, hl, small6 hz, k⟩⟩
theorem y_app {l : Addr} {xs : List V} (ho : Val ta σ H (.ref l)) (h : Val te σ H v) (hl : H l = some (.lst xs)) (hz : xs.length < 100000) (k : D.nx σ (upd H l (.lst (xs ++ [v])))) : tDrop (tBM K "list" rAppend ta (tCons te tNil)) D σ H :=
  ho _ ⟨.inl ⟨rfl, _, SqL.of hl⟩, h _ ⟨l, xs, v, rfl, rfl, hl, small6 hz, k⟩⟩
end
end Pk
namespace Pk
open PySem PySem.Spec
open PyProof.Rows L2
section
variable {K : PySem.W.Frag} {σ : L2.St} {H : Hp} {ta tb te : TE} {tr : TA} {x y z v : V} {vs : List V} {Q : VK} {tb tu : TS} {D : Ends} {i j : Nat} {g : TG}
/-! ### for, something behind (x_) or not (y_) -/
theorem y_forS {l : List Nat} (hv : Val te σ H (.str (tx l))) (Pv : Nat → L2.St → Hp → Prop) (h0 : Pv 0 σ H)
    (hs : ∀ k c σ' H', l[k]? = some c → Pv k σ' H' → tb { D with nx := Pv (k + 1), ct := Pv (k + 1), bk := D.nx } (σ'.set j (some (.str (tx [c])))) H') (hd : ∀ σ' H', Pv l.length σ' H' → D.nx σ' H') : tFor (iStr te) (gName j) tb D σ H :=
  hv _ ⟨tx l, rfl, by
    have w := walk_str (z := tx l)
    rw [tx_size] at w
    refine for_it w Pv h0 (fun _ _ _ _ _ => trivial) (fun k x σ' H1 H2 hk p y => ?_) hd
    obtain ⟨rfl, c, hc, rfl⟩ := y
    rw [tx_at] at hc
    exact hs k c σ' _ hc p⟩
theorem x_forS {l : List Nat} (hv : Val te σ H (.str (tx l))) (Pv : Nat → L2.St → Hp → Prop) (h0 : Pv 0 σ H)
    (hs : ∀ k c σ' H', l[k]? = some c → Pv k σ' H' → tb { D with nx := Pv (k + 1), ct := Pv (k + 1), bk := tu D } (σ'.set j (some (.str (tx [c])))) H') (hd : ∀ σ' H', Pv l.length σ' H' → tu D σ' H') : tSeq (tFor (iStr te) (gName j) tb) tu D σ H :=
  y_forS (D := { D with nx := tu D }) hv Pv h0 hs hd
/-- for i, c in enumerate(text): the pair is garbage -/
theorem y_forES {l : List Nat} {n : Nat} (hv : Val te σ H (.str (tx l))) (Pv : Nat → L2.St → Hp → Prop) (h0 : Pv 0 σ H)
    (hs : ∀ k c σ' H' T, l[k]? = some c → Pv k σ' H' → H' T = none → tb { D with nx := Pv (k + 1), ct := Pv (k + 1), bk := D.nx } ((σ'.set i (some (.int (k : Nat)))).set j (some (.str (tx [c])))) (upd H' T (.tup [.int (k : Nat), .str (tx [c])])))
    (hd : ∀ σ' H', Pv l.length σ' H' → D.nx σ' H') : tFor (iEnumS (tCons te tNil)) (gTup K 2 (gCons (gName i) (gCons (gName j) gNil))) tb D σ H :=
  hv _ ⟨tx l, rfl, by
    have w := walk_enumS (z := tx l)
    rw [tx_size] at w
    refine for_it w Pv h0 (fun _ _ _ _ _ => trivial) (fun k x σ' H1 H2 hk p y => ?_) hd
    obtain ⟨T, c, rfl, hT, rfl, hc⟩ := y
    rw [tx_at] at hc
    exact ⟨T, _, rfl, SqT.of upd_same, rfl, _, _, rfl, _, _, rfl, rfl, hs k c σ' _ T hc p hT⟩⟩
theorem x_forES {l : List Nat} (hv : Val te σ H (.str (tx l))) (Pv : Nat → L2.St → Hp → Prop) (h0 : Pv 0 σ H)
    (hs : ∀ k c σ' H' T, l[k]? = some c → Pv k σ' H' → H' T = none → tb { D with nx := Pv (k + 1), ct := Pv (k + 1), bk := tu D } ((σ'.set i (some (.int (k : Nat)))).set j (some (.str (tx [c])))) (upd H' T (.tup [.int (k : Nat), .str (tx [c])])))
    (hd : ∀ σ' H', Pv l.length σ' H' → tu D σ' H') : tSeq (tFor (iEnumS (tCons te tNil)) (gTup K 2 (gCons (gName i) (gCons (gName j) gNil))) tb) tu D σ H :=
  y_forES (D := { D with nx := tu D }) (n := 0) hv Pv h0 hs hd
/-- for x in list -/
theorem y_forL {a : Addr} {xs : List V} (hv : Val te σ H (.ref a)) (hx : SqL K H a xs) (Pv : Nat → L2.St → Hp → Prop) (h0 : Pv 0 σ H) (hl : ∀ k σ' H', Pv k σ' H' → SqL K H' a xs)
    (hs : ∀ k y σ' H', xs[k]? = some y → Pv k σ' H' → tb { D with nx := Pv (k + 1), ct := Pv (k + 1), bk := D.nx } (σ'.set j (some y)) H') (hd : ∀ σ' H', Pv xs.length σ' H' → D.nx σ' H') : tFor (iList K te) (gName j) tb D σ H :=
  hv _ ⟨a, rfl, ⟨xs, hx⟩, for_it (walk_list (K := K) (a := a) (xs := xs)) Pv h0 (fun k σ' H' _ p => hl k σ' H' p) (fun k y σ' H1 H2 hk p q => by
    obtain ⟨rfl, hq⟩ := q
    exact hs k y σ' _ hq p) hd⟩
theorem x_forL {a : Addr} {xs : List V} (hv : Val te σ H (.ref a)) (hx : SqL K H a xs) (Pv : Nat → L2.St → Hp → Prop) (h0 : Pv 0 σ H) (hl : ∀ k σ' H', Pv k σ' H' → SqL K H' a xs)
    (hs : ∀ k y σ' H', xs[k]? = some y → Pv k σ' H' → tb { D with nx := Pv (k + 1), ct := Pv (k + 1), bk := tu D } (σ'.set j (some y)) H') (hd : ∀ σ' H', Pv xs.length σ' H' → tu D σ' H') : tSeq (tFor (iList K te) (gName j) tb) tu D σ H :=
  y_forL (D := { D with nx := tu D }) hv hx Pv h0 hl hs hd
/-- the list made on the way -/
theorem for_lst {a : Addr} {xs : List V} (Pv : Nat → L2.St → Hp → Prop) (h0 : Pv 0 σ H) (hl : ∀ k σ' H', Pv k σ' H' → SqL K H' a xs)
    (hs : ∀ k y σ' H', xs[k]? = some y → Pv k σ' H' → g y σ' H' fun σ2 H2 => tb { D with nx := Pv (k + 1), ct := Pv (k + 1), bk := D.nx } σ2 H2) (hd : ∀ σ' H', Pv xs.length σ' H' → D.nx σ' H') :
    ∃ W : Nat → Nat → L2.St → Hp → Prop, (∃ m, W 0 m σ H) ∧ ∀ i m σ H, W i m σ H →
      ((Itl K a).stop i H ∧ D.nx σ H) ∨ ((Itl K a).go i H ∧ ∃ N : L2.St → Hp → Prop, (∀ σ' H', N σ' H' → ∃ m', m' < m ∧ W (i + 1) m' σ' H') ∧ ∀ x H', (Itl K a).yld i H x H' → g x σ H' fun σ2 H2 => tb { D with nx := N, ct := N, bk := D.nx } σ2 H2) :=
  for_it (walk_list (K := K) (a := a) (xs := xs)) Pv h0 (fun k σ' H' _ p => hl k σ' H' p) (fun k y σ' H1 H2 hk p q => by
    obtain ⟨rfl, hq⟩ := q
    exact hs k y σ' _ hq p) hd
/-- for i, x in enumerate(list) -/
theorem y_forEL {a : Addr} {xs : List V} (hv : Val te σ H (.ref a)) (hx : SqL K H a xs) (Pv : Nat → L2.St → Hp → Prop) (h0 : Pv 0 σ H) (hl : ∀ k σ' H', Pv k σ' H' → SqL K H' a xs)
    (hs : ∀ k y σ' H' T, xs[k]? = some y → Pv k σ' H' → H' T = none → tb { D with nx := Pv (k + 1), ct := Pv (k + 1), bk := D.nx } ((σ'.set i (some (.int (k : Nat)))).set j (some y)) (upd H' T (.tup [.int (k : Nat), y])))
    (hd : ∀ σ' H', Pv xs.length σ' H' → D.nx σ' H') : tFor (iEnum K (tCons te tNil)) (gTup K 2 (gCons (gName i) (gCons (gName j) gNil))) tb D σ H :=
  hv _ ⟨a, xs, rfl, hx, for_it (walk_enum (K := K) (a := a) (xs := xs)) Pv h0 (fun k σ' H' _ p => hl k σ' H' p) (fun k w σ' H1 H2 hk p q => by
    obtain ⟨T, u, y, rfl, hT, rfl, e1, e2⟩ := q
    cases e1
    exact ⟨T, _, rfl, SqT.of upd_same, rfl, _, _, rfl, _, _, rfl, rfl, hs k y σ' _ T e2 p hT⟩) hd⟩
theorem x_forEL {a : Addr} {xs : List V} (hv : Val te σ H (.ref a)) (hx : SqL K H a xs) (Pv : Nat → L2.St → Hp → Prop) (h0 : Pv 0 σ H) (hl : ∀ k σ' H', Pv k σ' H' → SqL K H' a xs)
    (hs : ∀ k y σ' H' T, xs[k]? = some y → Pv k σ' H' → H' T = none → tb { D with nx := Pv (k + 1), ct := Pv (k + 1), bk := tu D } ((σ'.set i (some (.int (k : Nat)))).set j (some y)) (upd H' T (.tup [.int (k : Nat), y])))
    (hd : ∀ σ' H', Pv xs.length σ' H' → tu D σ' H') : tSeq (tFor (iEnum K (tCons te tNil)) (gTup K 2 (gCons (gName i) (gCons (gName j) gNil))) tb) tu D σ H :=
  y_forEL (D := { D with nx := tu D }) hv hx Pv h0 hl hs hd
/-- for i in range(n) -/
theorem y_forR {n : Nat} (hv : Val te σ H (.int (n : Int))) (hn : n ≤ 100000) (Pv : Nat → L2.St → Hp → Prop) (h0 : Pv 0 σ H)
    (hs : ∀ k σ' H', k < n → Pv k σ' H' → tb { D with nx := Pv (k + 1), ct := Pv (k + 1), bk := D.nx } (σ'.set j (some (.int (k : Nat)))) H') (hd : ∀ σ' H', Pv n σ' H' → D.nx σ' H') : tFor (iRng1 (tCons te tNil)) (gName j) tb D σ H :=
  hv _ ⟨(n : Int), rfl, by omega, by omega, for_it (walk_range (lo := 0) (n := n)) Pv h0 (fun _ _ _ _ _ => trivial) (fun k y σ' H1 H2 hk p q => by
    obtain ⟨rfl, rfl⟩ := q
    have e : (0 : Int) + (k : Nat) = ((k : Nat) : Int) := Int.zero_add _
    show tb _ (σ'.set j (some (.int (0 + (k : Nat))))) _
    rw [e]
    exact hs k σ' _ hk p) hd⟩
theorem x_forR {n : Nat} (hv : Val te σ H (.int (n : Int))) (hn : n ≤ 100000) (Pv : Nat → L2.St → Hp → Prop) (h0 : Pv 0 σ H)
    (hs : ∀ k σ' H', k < n → Pv k σ' H' → tb { D with nx := Pv (k + 1), ct := Pv (k + 1), bk := tu D } (σ'.set j (some (.int (k : Nat)))) H') (hd : ∀ σ' H', Pv n σ' H' → tu D σ' H') : tSeq (tFor (iRng1 (tCons te tNil)) (gName j) tb) tu D σ H :=
  y_forR (D := { D with nx := tu D }) hv hn Pv h0 hs hd
/-- for i in range(a, b) -/
theorem y_forR2 {a b : Nat} {tz : TE} (hv : Val te σ H (.int (a : Int))) (hw : Val tz σ H (.int (b : Int))) (hn : a ≤ b ∧ b ≤ 100000) (Pv : Nat → L2.St → Hp → Prop) (h0 : Pv 0 σ H)
    (hs : ∀ k σ' H', k < b - a → Pv k σ' H' → tb { D with nx := Pv (k + 1), ct := Pv (k + 1), bk := D.nx } (σ'.set j (some (.int ((a + k : Nat) : Int)))) H') (hd : ∀ σ' H', Pv (b - a) σ' H' → D.nx σ' H') : tFor (iRng2 (tCons te (tCons tz tNil))) (gName j) tb D σ H :=
  hv _ (hw _ ⟨(a : Int), (b : Int), rfl, ⟨by omega, by omega, by omega, by omega⟩, by
    rw [show ((b : Int) - (a : Int)).toNat = b - a by omega]
    refine for_it (walk_range (lo := (a : Int)) (n := b - a)) Pv h0 (fun _ _ _ _ _ => trivial) (fun k y σ' H1 H2 hk p q => ?_) hd
    obtain ⟨rfl, rfl⟩ := q
    have e : (a : Int) + (k : Nat) = ((a + k : Nat) : Int) := by omega
    show tb _ (σ'.set j (some (.int ((a : Int) + (k : Nat))))) _
    rw [e]
    exact hs k σ' _ hk p⟩)
theorem x_forR2 {a b : Nat} {tz : TE} (hv : Val te σ H (.int (a : Int))) (hw : Val tz σ H (.int (b : Int))) (hn : a ≤ b ∧ b ≤ 100000) (Pv : Nat → L2.St → Hp → Prop) (h0 : Pv 0 σ H)
    (hs : ∀ k σ' H', k < b - a → Pv k σ' H' → tb { D with nx := Pv (k + 1), ct := Pv (k + 1), bk := tu D } (σ'.set j (some (.int ((a + k : Nat) : Int)))) H') (hd : ∀ σ' H', Pv (b - a) σ' H' → tu D σ' H') : tSeq (tFor (iRng2 (tCons te (tCons tz tNil))) (gName j) tb) tu D σ H :=
  y_forR2 (D := { D with nx := tu D }) hv hw hn Pv h0 hs hd
/-! ### while -/
theorem y_while {t : TT} (W : Nat → L2.St → Hp → Prop) (m : Nat) (w0 : W m σ H)
    (hs : ∀ m σ' H', W m σ' H' → ∃ b, Ans t σ' H' b ∧ (b = true → ∃ N : L2.St → Hp → Prop, (∀ σ2 H2, N σ2 H2 → ∃ m', m' < m ∧ W m' σ2 H2) ∧ tb { D with nx := N, ct := N, bk := D.nx } σ' H') ∧ (b = false → D.nx σ' H')) : tWhile t tb D σ H := by
  refine ⟨W, ⟨m, w0⟩, fun m σ' H' w => ?_⟩
  obtain ⟨b, h, h1, h2⟩ := hs m σ' H' w
  refine h _ ?_
  cases b with
  | true => exact h1 rfl
  | false => exact h2 rfl
theorem x_while {t : TT} (W : Nat → L2.St → Hp → Prop) (m : Nat) (w0 : W m σ H)
    (hs : ∀ m σ' H', W m σ' H' → ∃ b, Ans t σ' H' b ∧ (b = true → ∃ N : L2.St → Hp → Prop, (∀ σ2 H2, N σ2 H2 → ∃ m', m' < m ∧ W m' σ2 H2) ∧ tb { D with nx := N, ct := N, bk := tu D } σ' H') ∧ (b = false → tu D σ' H')) : tSeq (tWhile t tb) tu D σ H :=
  y_while (D := { D with nx := tu D }) W m w0 hs
end
/-! ### comprehensions -/
section
variable {J : It} {n : Nat} {G : Hp → Prop} {Y : Nat → Hp → V → Hp → Prop} {g : TG} {tt : TT} {te : TE} {vs : List Nat} {σ : L2.St} {S H : Hp} {Q : VK} {K : PySem.W.Frag}
/-- over any walk: F holds, at each turn, of what stands still and of what was made -/
theorem c_lc {Qd : Addr → Hp → Prop} (w : Walk J n G Y) (F : Nat → Hp → List V → Prop) (hE : Ex S H) (hG : ∀ H', Ex S H' → G H') (h0 : F 0 S [])
    (hs : ∀ k S' H' acc x H'' (R : V → Hp → Prop) (L : Hp → Prop), k < n → Gw S H S' H' → F k S' acc → Y k H' x H'' → (∀ y S4 H4, Gw S' H' S4 H4 → F (k + 1) S4 (acc ++ [y]) → acc.length < 100000 → R y H4) → (∀ S3 H3, Gw S' H' S3 H3 → F (k + 1) S3 acc → L H3) →
      g x (wipe σ vs) H'' fun σ2 H2 => wipe σ2 vs = wipe σ vs ∧ tt σ2 H2 fun b H3 => if b = true then te σ2 H3 R else L H3)
    (hd : ∀ D S' H' acc, F n S' acc → Gw S H S' H' → S' D = none → H D = none → H' D = some (.lst acc) → Qd D H') :
    ∀ D, H D = none → ∃ W : Nat → Nat → Hp → Prop, (∃ m, W 0 m (upd H D (.lst []))) ∧ ∀ i m H1, W i m H1 →
      (J.stop i H1 ∧ Qd D H1) ∨ (J.go i H1 ∧ ∃ Nx : Hp → Prop, (∀ H', Nx H' → ∃ m', m' < m ∧ W (i + 1) m' H') ∧ ∀ x H', J.yld i H1 x H' → g x (wipe σ vs) H' fun σ2 H2 => wipe σ2 vs = wipe σ vs ∧ tt σ2 H2 fun b H3 =>
        if b = true then te σ2 H3 fun y H4 => ∃ acc, H4 D = some (.lst acc) ∧ acc.length < sizeLine ∧ Nx (upd H4 D (.lst (acc ++ [y]))) else Nx H3) := by
  intro D hD
  refine lc_it w (Qd := fun H' => Qd D H') (fun k H' => ∃ S' acc, F k S' acc ∧ Gw S H S' H' ∧ S' D = none ∧ H' D = some (.lst acc)) ⟨S, [], h0, (Gw.refl hE).mut hD, hE.free hD, upd_same⟩ (fun k H' _ p => ?_) (fun k x H1 H2 hk p y => ?_) (fun H' p => ?_)
  · obtain ⟨S', acc, _, g1, _, _⟩ := p
    exact hG H' (g1.s.trans g1.i)
  · obtain ⟨S', acc, hF, g1, sD, eD⟩ := p
    refine hs k S' H1 acc x H2 _ _ hk g1 hF y (fun y S4 H4 g4 f4 z => ?_) (fun S3 H3 g3 f3 => ?_)
    · have e4 : H4 D = some (.lst acc) := g4.h D _ eD
      have s4 : S4 D = none := g4.out eD sD
      exact ⟨acc, e4, small6 z, S4, acc ++ [y], f4, (g1.trans g4).set hD s4, s4, upd_same⟩
    · exact ⟨S3, acc, f3, g1.trans g3, g3.out eD sD, g3.h D _ eD⟩
  · obtain ⟨S', acc, hF, g1, sD, eD⟩ := p
    exact hd D S' H' acc hF g1 sD hD eD
theorem c_tlc {wi : TI} {H0 : Hp} (hw : ∀ R : It → Hp → Prop, R J H → wi σ H0 R) (w : Walk J n G Y) (F : Nat → Hp → List V → Prop) (hE : Ex S H) (hG : ∀ H', Ex S H' → G H') (h0 : F 0 S [])
    (hs : ∀ k S' H' acc x H'' (R : V → Hp → Prop) (L : Hp → Prop), k < n → Gw S H S' H' → F k S' acc → Y k H' x H'' → (∀ y S4 H4, Gw S' H' S4 H4 → F (k + 1) S4 (acc ++ [y]) → acc.length < 100000 → R y H4) → (∀ S3 H3, Gw S' H' S3 H3 → F (k + 1) S3 acc → L H3) →
      g x (wipe σ vs) H'' fun σ2 H2 => wipe σ2 vs = wipe σ vs ∧ tt σ2 H2 fun b H3 => if b = true then te σ2 H3 R else L H3)
    (hd : ∀ D S' H' acc, F n S' acc → Gw S H S' H' → S' D = none → H D = none → H' D = some (.lst acc) → Q (.ref D) H') : tLc wi g tt te vs σ H0 Q :=
  hw _ (c_lc (Qd := fun D H' => Q (.ref D) H') w F hE hG h0 hs hd)
theorem c_yes {te : TE} {R : V → Hp → Prop} {L : Hp → Prop} (h : te σ H R) : tYes σ H fun b H3 => if b = true then te σ H3 R else L H3 := iteT (B := L H) h
theorem c_nota {r : List V → Hp → VK → Prop} {te : TE} {Q : Bool → Hp → Prop} (h : te σ H fun x H1 => r [x] H1 fun y H2 => ∃ c, y = .bl c ∧ Q (!c) H2) : tNot (tB (tCB r (tCons te tNil))) σ H Q := h
theorem c_test {t : TT} {te : TE} {R : V → Hp → Prop} {L : Hp → Prop} {b : Bool} (h : Ans t σ H b) (h1 : b = true → te σ H R) (h2 : b = false → L H) : t σ H fun b H3 => if b = true then te σ H3 R else L H3 := h _ (by
  cases b with
  | true => exact h1 rfl
  | false => exact h2 rfl)
theorem c_arg1 {r : List V → Hp → VK → Prop} {te : TE} (h : te σ H fun x H1 => r [x] H1 Q) : tCB r (tCons te tNil) σ H Q := h
end
end Pk
namespace Pk
open PySem PySem.Spec
open PyProof.Rows L2
/-! ### rows -/
def isLt (c : Nat) : Prop := 97 ≤ c ∧ c ≤ 122
instance (c : Nat) : Decidable (isLt c) := inferInstanceAs (Decidable (97 ≤ c ∧ c ≤ 122))
def RowP (l : List Nat) : Prop := l.length ≤ 48 ∧ ∀ c ∈ l, isLt c ∨ c = 46
def Plain (l : List Nat) : Prop := l.length ≤ 24 ∧ ∀ c ∈ l, isLt c
def part (l : List Nat) : List Nat := l.flatMap fun c => [46, c]
theorem Plain.row {l : List Nat} (h : Plain l) : RowP l := ⟨by have := h.1; omega, fun c hc => .inl (h.2 c hc)⟩
theorem part_cons (c : Nat) (l : List Nat) : part (c :: l) = 46 :: c :: part l := rfl
theorem part_length : ∀ l : List Nat, (part l).length = 2 * l.length
  | [] => rfl
  | c :: l => by rw [part_cons, List.length_cons, List.length_cons, part_length l, List.length_cons]; omega
theorem part_app (a b : List Nat) : part (a ++ b) = part a ++ part b := by unfold part; rw [List.flatMap_append]
theorem part_row {l : List Nat} (h : Plain l) : RowP (part l) := by
  refine ⟨by rw [part_length]; have := h.1; omega, fun c hc => ?_⟩
  obtain ⟨d, hd, hm⟩ := List.mem_flatMap.mp hc
  rcases List.mem_cons.mp hm with e | hm
  · exact .inr e
  · rw [List.mem_singleton.mp hm]; exact .inl (h.2 d hd)
theorem letters_list : ("abcdefghijklmnopqrstuvwxyz" : Str).cps.toList = List.range' 97 26 := by decide +kernel
theorem letters_mem (c : Nat) : c ∈ ("abcdefghijklmnopqrstuvwxyz" : Str).cps.toList ↔ isLt c := by
  rw [letters_list, List.mem_range'_1]
  unfold isLt
  omega
theorem dot_tx : ("." : Str) = tx [46] := by decide +kernel
theorem empty_tx : ("" : Str) = tx [] := by decide +kernel
/-! ### changes -/
inductive Ch where
  | kp (a : Nat) | cg (a b : Nat) | ou (a : Nat) | im (b : Nat)
  deriving DecidableEq
def Ch.ol : Ch → List Nat
  | .kp a => [a] | .cg a _ => [a] | .ou a => [a] | .im _ => []
def Ch.nw : Ch → List Nat
  | .kp a => [a] | .cg _ b => [b] | .ou _ => [] | .im b => [b]
def Ch.pay : Ch → Nat
  | .kp _ => 0 | _ => 1
def Ch.ok : Ch → Prop
  | .kp a => isLt a | .cg a b => isLt a ∧ isLt b ∧ a ≠ b | .ou a => isLt a | .im b => isLt b
def Ch.bk : Ch → Ch
  | .kp a => .kp a | .cg a b => .cg b a | .ou a => .im a | .im b => .ou b
def olds (cs : List Ch) : List Nat := cs.flatMap Ch.ol
def news (cs : List Ch) : List Nat := cs.flatMap Ch.nw
def pays (cs : List Ch) : Nat := (cs.filter fun c => c.pay ≠ 0).length
def ChsOk (cs : List Ch) : Prop := cs.length ≤ 48 ∧ ∀ c ∈ cs, c.ok
/-- the change of a letter (or none) into another (or none) -/
def comb : List Nat → List Nat → List Ch
  | [a], [b] => if a = b then [.kp a] else [.cg a b]
  | [], [b] => [.im b]
  | [a], [] => [.ou a]
  | _, _ => []
/-! ### as data -/
def vCh : Ch → List V
  | .kp a => [.str "keep", .str (tx [a])]
  | .cg a b => [.str "change", .str (tx [a]), .str (tx [b])]
  | .ou a => [.str "out", .str (tx [a])]
  | .im b => [.str "in", .str (tx [b])]
def dCh : Ch → List PyData
  | .kp a => [.str "keep", .str (tx [a])]
  | .cg a b => [.str "change", .str (tx [a]), .str (tx [b])]
  | .ou a => [.str "out", .str (tx [a])]
  | .im b => [.str "in", .str (tx [b])]
def eCh (c : Ch) : PyData := .tuple (dCh c)
def eChs (cs : List Ch) : PyData := .list (cs.map eCh)
def ePr (p : Nat × Nat) : PyData := .tuple [.int p.1, .int p.2]
def ePrs (ps : List (Nat × Nat)) : PyData := .list (ps.map ePr)
def eHps (hs : List (List (Nat × Nat))) : PyData := .list (hs.map ePrs)
def eIL (ns : List Int) : PyData := .list (ns.map PyData.int)
def eILL (t : List (List Int)) : PyData := .list (t.map eIL)
def eIL3 (t : List (List (List Int))) : PyData := .list (t.map eILL)
theorem dCh_v {S : Hp} (c : Ch) : AtA S (vCh c) (dCh c) := by
  cases c <;> exact .cons (.str _) (.cons (.str _) (by first | exact .nil | exact .cons (.str _) .nil))
theorem At.ch_ {S : Hp} {v : V} {c : Ch} (h : At S v (eCh c)) : ∃ p, v = .ref p ∧ S p = some (.tup (vCh c)) := by
  obtain ⟨p, xs, e, h1, h2⟩ := h.tup_
  have e2 : xs = vCh c := by
    cases c with
    | kp a => obtain ⟨v1, r1, rfl, a1, b1⟩ := h2.cons_; obtain ⟨v2, r2, rfl, a2, b2⟩ := b1.cons_; rw [b2.nil_, a1.str_, a2.str_]; rfl
    | cg a b =>
      obtain ⟨v1, r1, rfl, a1, b1⟩ := h2.cons_; obtain ⟨v2, r2, rfl, a2, b2⟩ := b1.cons_; obtain ⟨v3, r3, rfl, a3, b3⟩ := b2.cons_
      rw [b3.nil_, a1.str_, a2.str_, a3.str_]; rfl
    | ou a => obtain ⟨v1, r1, rfl, a1, b1⟩ := h2.cons_; obtain ⟨v2, r2, rfl, a2, b2⟩ := b1.cons_; rw [b2.nil_, a1.str_, a2.str_]; rfl
    | im a => obtain ⟨v1, r1, rfl, a1, b1⟩ := h2.cons_; obtain ⟨v2, r2, rfl, a2, b2⟩ := b1.cons_; rw [b2.nil_, a1.str_, a2.str_]; rfl
  rw [e2] at h1
  exact ⟨p, e, h1⟩
theorem At.ch {S : Hp} {p : Addr} {c : Ch} (h : S p = some (.tup (vCh c))) : At S (.ref p) (eCh c) := .tup h (dCh_v c)
theorem At.pr_ {S : Hp} {v : V} {p : Nat × Nat} (h : At S v (ePr p)) : ∃ a, v = .ref a ∧ S a = some (.tup [.int p.1, .int p.2]) := by
  obtain ⟨a, xs, e, h1, h2⟩ := h.tup_
  obtain ⟨v1, r1, rfl, a1, b1⟩ := h2.cons_
  obtain ⟨v2, r2, rfl, a2, b2⟩ := b1.cons_
  rw [b2.nil_, a1.int_, a2.int_] at h1
  exact ⟨a, e, h1⟩
theorem At.pr {S : Hp} {a : Addr} {p : Nat × Nat} (h : S a = some (.tup [.int p.1, .int p.2])) : At S (.ref a) (ePr p) := .tup h (.cons (.int _) (.cons (.int _) .nil))
theorem val_dot {σ : L2.St} {H : Hp} : Val (tC (.str ".")) σ H (.str (tx [46])) := val_is val_c (by rw [dot_tx])
theorem val_emp {σ : L2.St} {H : Hp} : Val (tC (.str "")) σ H (.str (tx [])) := val_is val_c (by rw [empty_tx])
theorem glue_fold : ∀ (ls : List (List Nat)) (a : Array Nat), (ls.map tx).foldl (fun acc p => acc ++ (tx []).cps ++ p.cps) a = a ++ ls.flatten.toArray
  | [], a => by simp
  | l :: ls, a => by
    rw [List.map_cons, List.foldl_cons, glue_fold ls]
    unfold tx
    simp
theorem join_tx (ls : List (List Nat)) : Txt.join "" (ls.map tx) = tx ls.flatten := by
  rw [empty_tx]
  show PySem.Builtin.Str.glued (tx []) (ls.map tx) = _
  unfold PySem.Builtin.Str.glued
  cases ls with
  | nil => rfl
  | cons l ls =>
    show (⟨((ls.map tx)).foldl (fun acc p => acc ++ (tx []).cps ++ p.cps) (tx l).cps⟩ : Str) = _
    rw [glue_fold]
    unfold tx
    simp
def Ch.kd : Ch → Str
  | .kp _ => "keep" | .cg _ _ => "change" | .ou _ => "out" | .im _ => "in"
def Ch.ls : Ch → List Nat
  | .kp a => [a] | .cg a b => [a, b] | .ou a => [a] | .im b => [b]
theorem vCh_eq (c : Ch) : vCh c = .str c.kd :: c.ls.map fun a => V.str (tx [a]) := by cases c <;> rfl
theorem Ch.ok_ls {c : Ch} (h : c.ok) : ∀ a ∈ c.ls, isLt a := by
  cases c with
  | kp a => intro x hx; rw [List.mem_singleton.mp hx]; exact h
  | cg a b =>
    intro x hx
    rcases List.mem_cons.mp hx with e | hx
    · rw [e]; exact h.1
    · rw [List.mem_singleton.mp hx]; exact h.2.1
  | ou a => intro x hx; rw [List.mem_singleton.mp hx]; exact h
  | im a => intro x hx; rw [List.mem_singleton.mp hx]; exact h
theorem Ch.ls_len (c : Ch) : 1 ≤ c.ls.length ∧ c.ls.length ≤ 2 := by cases c <;> simp [Ch.ls]
theorem ne_kc : ¬ ("keep" : Str) = "change" := by decide +kernel
theorem ne_oc : ¬ ("out" : Str) = "change" := by decide +kernel
theorem ne_ic : ¬ ("in" : Str) = "change" := by decide +kernel
theorem ne_ki : ¬ ("keep" : Str) = "in" := by decide +kernel
theorem ne_ci : ¬ ("change" : Str) = "in" := by decide +kernel
theorem ne_oi : ¬ ("out" : Str) = "in" := by decide +kernel
theorem ne_ko : ¬ ("keep" : Str) = "out" := by decide +kernel
theorem ne_co : ¬ ("change" : Str) = "out" := by decide +kernel
theorem ne_io : ¬ ("in" : Str) = "out" := by decide +kernel
theorem ne_ck : ¬ ("change" : Str) = "keep" := by decide +kernel
theorem ne_ok : ¬ ("out" : Str) = "keep" := by decide +kernel
theorem ne_ik : ¬ ("in" : Str) = "keep" := by decide +kernel
theorem decV {a b : Str} (h : ¬ a = b) : decide (V.str a = V.str b) = false := decide_eq_false fun q => h (V.str.inj q)
theorem decT (a : Str) : decide (V.str a = V.str a) = true := decide_eq_true rfl
/-- what SIZES tells -/
theorem sizes_of {K : PySem.W.Frag} (h : ex K = true) (c : Ch) : ∃ u, PySem.W.nsIn K (He.ga K "SIZES") c.kd = some (some u) ∧ RelV (.int (c.ls.length + 1 : Int)) u := by
  have g : ∀ q : Str × He.Dv, q ∈ [(("keep" : Str), He.Dv.int 2), ("change", .int 3), ("out", .int 2), ("in", .int 2)] → ∃ u, PySem.W.nsIn K (He.ga K "SIZES") q.1 = some (some u) ∧ RelV (q.2.v K) u := fun q hq => He.valsB_ok h hq
  cases c with
  | kp a => exact g ("keep", .int 2) (by simp)
  | cg a b => exact g ("change", .int 3) (by simp)
  | ou a => exact g ("out", .int 2) (by simp)
  | im a => exact g ("in", .int 2) (by simp)
section
variable {K : PySem.W.Frag} {σ : L2.St} {H : Hp} {ty tz : TE} {v : V} {t u : TT} {Q : Bool → Hp → Prop}
theorem val_kget {d : Addr} {key : Str} {w : Value} {z : V} (h : Val ty σ H (.str key)) (k : Val tz σ H z) (hn : PySem.W.nsIn K d key = some (some w)) (r : RelV v w) : Val (tKget K d (tC (.ref d)) ty tz) σ H v :=
  fun Q q => ⟨rfl, h _ (k _ ⟨key, _, rfl, hn, fun u hu => by cases hu; exact ⟨v, r, q⟩, fun z => by cases z⟩)⟩
theorem or_f (h : Ans t σ H false) (k : u σ H Q) : tOr t u σ H Q := h _ k
theorem or_t (h : Ans t σ H true) (k : Q true H) : tOr t u σ H Q := h _ k
theorem and_t (h : Ans t σ H true) (k : u σ H Q) : tAnd t u σ H Q := h _ k
theorem and_f (h : Ans t σ H false) (k : Q false H) : tAnd t u σ H Q := h _ k
end
theorem c_join {K : PySem.W.Frag} {H : Hp} {Q : VK} {D : Addr} (ls : List (List Nat)) (hD : H D = some (.lst (ls.map fun l => V.str (tx l)))) (hz : ls.flatten.length ≤ 100000) (k : Q (.str (tx ls.flatten)) H) : cJoin K (.str "") [.ref D] H Q := by
  refine ⟨"", D, ls.map tx, rfl, rfl, .inl (SqL.of ?_), ?_, ?_⟩
  · rw [hD, List.map_map]; rfl
  · have e0 : ("" : Str).length = 0 := by rw [empty_tx]; rfl
    rw [e0, Nat.mul_zero, Nat.add_zero, List.map_map]
    have e : (ls.map ((fun x : Str => x.length) ∘ tx)).sum = ls.flatten.length := by
      clear hD hz k
      induction ls with
      | nil => rfl
      | cons l r ih =>
        rw [List.map_cons, List.sum_cons, ih, List.flatten_cons, List.length_append]
        show (tx l).length + _ = _
        rw [tx_len]
    rw [e]
    omega
  · rw [join_tx]; exact k
theorem fl_ol (cs : List Ch) : (cs.map Ch.ol).flatten = olds cs := by unfold olds; rw [List.flatMap_def]
theorem fl_nw (cs : List Ch) : (cs.map Ch.nw).flatten = news cs := by unfold news; rw [List.flatMap_def]
theorem ol_len (c : Ch) : c.ol.length ≤ 1 := by cases c <;> simp [Ch.ol]
theorem nw_len (c : Ch) : c.nw.length ≤ 1 := by cases c <;> simp [Ch.nw]
theorem olds_app (a b : List Ch) : olds (a ++ b) = olds a ++ olds b := by unfold olds; rw [List.flatMap_append]
theorem news_app (a b : List Ch) : news (a ++ b) = news a ++ news b := by unfold news; rw [List.flatMap_append]
theorem olds_cons (c : Ch) (b : List Ch) : olds (c :: b) = c.ol ++ olds b := rfl
theorem news_cons (c : Ch) (b : List Ch) : news (c :: b) = c.nw ++ news b := rfl
theorem olds_len (cs : List Ch) : (olds cs).length ≤ cs.length := by
  induction cs with
  | nil => exact Nat.le_refl _
  | cons c r ih => rw [olds_cons, List.length_append, List.length_cons]; have := ol_len c; omega
theorem news_len (cs : List Ch) : (news cs).length ≤ cs.length := by
  induction cs with
  | nil => exact Nat.le_refl _
  | cons c r ih => rw [news_cons, List.length_append, List.length_cons]; have := nw_len c; omega
theorem pays_app (a b : List Ch) : pays (a ++ b) = pays a + pays b := by unfold pays; rw [List.filter_append, List.length_append]
theorem pays_one (c : Ch) : pays [c] = c.pay := by cases c <;> rfl
theorem pays_cons (c : Ch) (r : List Ch) : pays (c :: r) = c.pay + pays r := by
  rw [← pays_one, ← pays_app]; rfl
theorem comb_bk (c : Ch) (h : c.ok) : comb c.nw c.ol = [c.bk] := by
  cases c with
  | kp a => show (if a = a then [Ch.kp a] else _) = _; rw [if_pos rfl]; rfl
  | cg a b => show (if b = a then [Ch.kp b] else [Ch.cg b a]) = _; rw [if_neg (fun e => h.2.2 e.symm)]; rfl
  | ou a => rfl
  | im a => rfl
/-- the changes that do the first, then the second -/
def aft : List Ch → List Ch → List Ch
  | [], ds => ds
  | c :: cs, ds => if c.nw = [] then c :: aft cs ds else match ds with
    | [] => []
    | d :: ds => if d.ol = [] then d :: aft (c :: cs) ds else comb c.ol d.nw ++ aft cs ds
termination_by cs ds => cs.length + ds.length
theorem aft_nil (ds : List Ch) : aft [] ds = ds := by unfold aft; rfl
theorem aft_out {c : Ch} (cs ds : List Ch) (h : c.nw = []) : aft (c :: cs) ds = c :: aft cs ds := by
  conv => lhs; rw [aft.eq_def]
  exact if_pos h
theorem aft_in {c d : Ch} (cs ds : List Ch) (h : c.nw ≠ []) (k : d.ol = []) : aft (c :: cs) (d :: ds) = d :: aft (c :: cs) ds := by
  conv => lhs; rw [aft.eq_def]
  exact (if_neg h).trans (if_pos k)
theorem aft_both {c d : Ch} (cs ds : List Ch) (h : c.nw ≠ []) (k : d.ol ≠ []) : aft (c :: cs) (d :: ds) = comb c.ol d.nw ++ aft cs ds := by
  conv => lhs; rw [aft.eq_def]
  exact (if_neg h).trans (if_neg k)
theorem At.chs_ {S : Hp} {v : V} {cs : List Ch} (h : At S v (eChs cs)) : ∃ p vs, v = .ref p ∧ S p = some (.lst vs) ∧ AtA S vs (cs.map eCh) := h.lst_
end Pk
namespace Pk
open PySem PySem.Spec
open PyProof.Rows L2
/-! ### what a table of costs and one of lengths hold -/
def ed (a b : List Nat) : Nat → Nat → Nat
  | 0, j => j
  | i + 1, 0 => i + 1
  | i + 1, j + 1 => min (min (ed a b i j + if a[i]? = b[j]? then 0 else 1) (ed a b i (j + 1) + 1)) (ed a b (i + 1) j + 1)
termination_by i j => i + j
def lc (a b : List Nat) : Nat → Nat → Nat
  | 0, _ => 0
  | _ + 1, 0 => 0
  | i + 1, j + 1 => if a[i]? = b[j]? then lc a b i j + 1 else max (lc a b i (j + 1)) (lc a b (i + 1) j)
termination_by i j => i + j
theorem ed_0 (a b : List Nat) (j : Nat) : ed a b 0 j = j := by unfold ed; rfl
theorem ed_s0 (a b : List Nat) (i : Nat) : ed a b i 0 = i := by
  cases i with
  | zero => exact ed_0 a b 0
  | succ i => unfold ed; rfl
theorem ed_ss (a b : List Nat) (i j : Nat) : ed a b (i + 1) (j + 1) = min (min (ed a b i j + if a[i]? = b[j]? then 0 else 1) (ed a b i (j + 1) + 1)) (ed a b (i + 1) j + 1) := by
  conv => lhs; unfold ed
theorem lc_0 (a b : List Nat) (j : Nat) : lc a b 0 j = 0 := by unfold lc; rfl
theorem lc_s0 (a b : List Nat) (i : Nat) : lc a b i 0 = 0 := by
  cases i with
  | zero => exact lc_0 a b 0
  | succ i => unfold lc; rfl
theorem lc_ss (a b : List Nat) (i j : Nat) : lc a b (i + 1) (j + 1) = if a[i]? = b[j]? then lc a b i j + 1 else max (lc a b i (j + 1)) (lc a b (i + 1) j) := by
  conv => lhs; unfold lc
theorem mn3_nat (x y z : Nat) : mn3 (x : Int) (y : Int) (z : Int) = ((min (min x y) z : Nat) : Int) := by
  unfold mn3
  split <;> split <;> omega
/-- a row of a table of whole numbers -/
def rowV (f : Nat → Nat) (n : Nat) : List V := (List.range n).map fun j => V.int (f j : Nat)
def rowI (f : Nat → Nat) (n : Nat) : List Int := (List.range n).map fun j => ((f j : Nat) : Int)
theorem rowI_v (f : Nat → Nat) (n : Nat) : (rowI f n).map V.int = rowV f n := by unfold rowI rowV; rw [List.map_map]; rfl
theorem rowV_succ (f : Nat → Nat) (n : Nat) : rowV f (n + 1) = rowV f n ++ [V.int (f n : Nat)] := by unfold rowV; rw [List.range_succ, List.map_append]; rfl
theorem rowV_len (f : Nat → Nat) (n : Nat) : (rowV f n).length = n := by unfold rowV; simp
theorem rowI_len (f : Nat → Nat) (n : Nat) : (rowI f n).length = n := by unfold rowI; simp
theorem rowV_at (f : Nat → Nat) {n i : Nat} {z : Int} (e : z = (i : Int)) (h : i < n) : atI (rowV f n) z = some (V.int (f i : Nat)) := at_nat e (rm_get h)
theorem rowV_rep (n : Nat) : List.replicate n (V.int 0) = rowV (fun _ => 0) n := by
  unfold rowV
  apply List.ext_getElem?
  intro i
  by_cases h : i < n
  · rw [rm_get h, List.getElem?_replicate, if_pos h]; rfl
  · rw [List.getElem?_eq_none (by simpa using h), List.getElem?_eq_none (by simpa using h)]
theorem rowV_ext {f g : Nat → Nat} {n : Nat} (h : ∀ i, i < n → f i = g i) : rowV f n = rowV g n := by
  unfold rowV
  refine List.map_congr_left fun i hi => ?_
  rw [h i (List.mem_range.mp hi)]
theorem rowI_ext {f g : Nat → Nat} {n : Nat} (h : ∀ i, i < n → f i = g i) : rowI f n = rowI g n := by
  unfold rowI
  refine List.map_congr_left fun i hi => ?_
  rw [h i (List.mem_range.mp hi)]
theorem At.row_ {S : Hp} {v : V} {f : Nat → Nat} {n : Nat} (h : At S v (eIL (rowI f n))) : ∃ p, v = .ref p ∧ S p = some (.lst (rowV f n)) := by
  obtain ⟨p, e, h1⟩ := At.il_ h
  rw [rowI_v] at h1
  exact ⟨p, e, h1⟩
theorem At.row {S : Hp} {p : Addr} {f : Nat → Nat} {n : Nat} (h : S p = some (.lst (rowV f n))) : At S (.ref p) (eIL (rowI f n)) := .lst h (by rw [← rowI_v]; exact AtA.of_ints _)
/-- a table of them -/
def tabI (f : Nat → Nat → Nat) (m n : Nat) : List (List Int) := (List.range m).map fun i => rowI (f i) n
theorem tabI_succ (f : Nat → Nat → Nat) (m n : Nat) : tabI f (m + 1) n = tabI f m n ++ [rowI (f m) n] := by unfold tabI; rw [List.range_succ, List.map_append]; rfl
theorem tabI_get (f : Nat → Nat → Nat) {m n i : Nat} (h : i < m) : (tabI f m n)[i]? = some (rowI (f i) n) := rm_get h
theorem tabI_len (f : Nat → Nat → Nat) (m n : Nat) : (tabI f m n).length = m := by unfold tabI; simp
theorem range_rgV (n : Nat) : rgV 0 (n : Int) = rowV (fun j => j) n := by
  unfold rgV rowV
  simp
/-! ### the changes told -/
def trb (a b : List Nat) : Nat → Nat → List Ch
  | 0, 0 => []
  | i + 1, 0 => .ou (a.getD i 0) :: trb a b i 0
  | 0, j + 1 => .im (b.getD j 0) :: trb a b 0 j
  | i + 1, j + 1 => if ed a b (i + 1) (j + 1) = ed a b i (j + 1) + 1 then .ou (a.getD i 0) :: trb a b i (j + 1)
    else if ed a b (i + 1) (j + 1) = ed a b (i + 1) j + 1 then .im (b.getD j 0) :: trb a b (i + 1) j
    else comb [a.getD i 0] [b.getD j 0] ++ trb a b i j
termination_by i j => i + j
theorem trb_0 (a b : List Nat) : trb a b 0 0 = [] := by unfold trb; rfl
theorem trb_ou {a b : List Nat} {i j : Nat} (h : ed a b (i + 1) j = ed a b i j + 1) : trb a b (i + 1) j = .ou (a.getD i 0) :: trb a b i j := by
  cases j with
  | zero => conv => lhs; unfold trb
  | succ j => conv => lhs; unfold trb
              exact if_pos h
theorem trb_im {a b : List Nat} {i j : Nat} (k : ∀ n, i = n + 1 → ed a b i (j + 1) ≠ ed a b n (j + 1) + 1) (h : ed a b i (j + 1) = ed a b i j + 1) : trb a b i (j + 1) = .im (b.getD j 0) :: trb a b i j := by
  cases i with
  | zero => conv => lhs; unfold trb
  | succ i => conv => lhs; unfold trb
              exact (if_neg (k i rfl)).trans (if_pos h)
theorem trb_both {a b : List Nat} {i j : Nat} (h : ed a b (i + 1) (j + 1) ≠ ed a b i (j + 1) + 1) (k : ed a b (i + 1) (j + 1) ≠ ed a b (i + 1) j + 1) : trb a b (i + 1) (j + 1) = comb [a.getD i 0] [b.getD j 0] ++ trb a b i j := by
  conv => lhs; unfold trb
  exact (if_neg h).trans (if_neg k)
def chg (a b : List Nat) : List Ch := (trb a b a.length b.length).reverse
end Pk
namespace Pk
/-! ### the costs by the lengths -/
theorem part_get0 : ∀ (l : List Nat) (i : Nat), i < l.length → (part l)[2 * i]? = some 46
  | [], i, h => by simp at h
  | c :: l, 0, _ => rfl
  | c :: l, i + 1, h => by
    rw [part_cons, show 2 * (i + 1) = 2 * i + 1 + 1 by omega, List.getElem?_cons_succ, List.getElem?_cons_succ]
    exact part_get0 l i (by simpa using h)
theorem part_get1 : ∀ (l : List Nat) (i : Nat), (part l)[2 * i + 1]? = l[i]?
  | [], i => by simp [part]
  | c :: l, 0 => rfl
  | c :: l, i + 1 => by
    rw [part_cons, show 2 * (i + 1) + 1 = 2 * i + 1 + 1 + 1 by omega, List.getElem?_cons_succ, List.getElem?_cons_succ, List.getElem?_cons_succ]
    exact part_get1 l i
theorem ed_le_u (a b : List Nat) (i j : Nat) : ed a b (i + 1) j ≤ ed a b i j + 1 := by
  cases j with
  | zero => rw [ed_s0, ed_s0]; omega
  | succ j => rw [ed_ss]; omega
theorem ed_le_l (a b : List Nat) (i j : Nat) : ed a b i (j + 1) ≤ ed a b i j + 1 := by
  cases i with
  | zero => rw [ed_0, ed_0]; omega
  | succ i => rw [ed_ss]; omega
theorem ed_ge_u (a b : List Nat) (i j : Nat) : ed a b i j ≤ ed a b (i + 1) j + 1 ∧ ed a b i j ≤ ed a b i (j + 1) + 1 := by
  induction h : i + j using Nat.strongRecOn generalizing i j with
  | _ n ih =>
    constructor
    · cases j with
      | zero => rw [ed_s0, ed_s0]; omega
      | succ j =>
        rw [ed_ss]
        have h1 := ed_le_l a b i j
        have h3 := (ih (i + j) (by omega) i j rfl).1
        by_cases e : a[i]? = b[j]?
        · rw [if_pos e]; omega
        · rw [if_neg e]; omega
    · cases i with
      | zero => rw [ed_0, ed_0]; omega
      | succ i =>
        rw [ed_ss]
        have h1 := ed_le_u a b i j
        have h3 := (ih (i + j) (by omega) i j rfl).2
        by_cases e : a[i]? = b[j]?
        · rw [if_pos e]; omega
        · rw [if_neg e]; omega
theorem lc_le (x y : List Nat) (i j : Nat) : lc x y i j ≤ i ∧ lc x y i j ≤ j := by
  induction h : i + j using Nat.strongRecOn generalizing i j with
  | _ n ih =>
    cases i with
    | zero => rw [lc_0]; omega
    | succ i =>
      cases j with
      | zero => rw [lc_s0]; omega
      | succ j =>
        rw [lc_ss]
        have h1 := ih (i + j) (by omega) i j rfl
        have h2 := ih (i + (j + 1)) (by omega) i (j + 1) rfl
        have h3 := ih (i + 1 + j) (by omega) (i + 1) j rfl
        split <;> omega
theorem lc_part {a b : List Nat} (ha : Plain a) (hb : Plain b) (i j : Nat) (hi : i ≤ a.length) (hj : j ≤ b.length) : lc (part a) (part b) (2 * i) (2 * j) + ed a b i j = i + j := by
  induction h : i + j using Nat.strongRecOn generalizing i j with
  | _ n ih =>
    subst h
    cases i with
    | zero => rw [Nat.mul_zero, lc_0, ed_0]
    | succ i =>
      cases j with
      | zero => rw [Nat.mul_zero, lc_s0, ed_s0]; omega
      | succ j =>
        have h1 := ih (i + j) (by omega) i j (by omega) (by omega) rfl
        have h2 := ih (i + (j + 1)) (by omega) i (j + 1) (by omega) hj rfl
        have h3 := ih (i + 1 + j) (by omega) (i + 1) j hi (by omega) rfl
        have xa := List.getElem?_eq_getElem (show i < a.length by omega)
        have xb := List.getElem?_eq_getElem (show j < b.length by omega)
        have na : a[i] ≠ 46 := fun e => by have := ha.2 _ (List.getElem_mem (show i < a.length by omega)); unfold isLt at this; omega
        have nb : b[j] ≠ 46 := fun e => by have := hb.2 _ (List.getElem_mem (show j < b.length by omega)); unfold isLt at this; omega
        have p0 := part_get0 a i (by omega)
        have q0 := part_get0 b j (by omega)
        have p1 := (part_get1 a i).trans xa
        have q1 := (part_get1 b j).trans xb
        have l11 : lc (part a) (part b) (2 * i + 1) (2 * j + 1) = lc (part a) (part b) (2 * i) (2 * j) + 1 := by rw [lc_ss, if_pos (by rw [p0, q0])]
        have l21 : lc (part a) (part b) (2 * i + 1 + 1) (2 * j + 1) = max (lc (part a) (part b) (2 * i + 1) (2 * j + 1)) (lc (part a) (part b) (2 * i + 1 + 1) (2 * j)) := by
          rw [lc_ss, if_neg (by rw [p1, q0]; intro e; exact na (Option.some.inj e))]
        have l12 : lc (part a) (part b) (2 * i + 1) (2 * j + 1 + 1) = max (lc (part a) (part b) (2 * i) (2 * j + 1 + 1)) (lc (part a) (part b) (2 * i + 1) (2 * j + 1)) := by
          rw [lc_ss, if_neg (by rw [p0, q1]; intro e; exact nb (Option.some.inj e).symm)]
        rw [show 2 * (i + 1) = 2 * i + 1 + 1 by omega] at h3 ⊢
        rw [show 2 * (j + 1) = 2 * j + 1 + 1 by omega] at h2 ⊢
        have g := ed_ge_u a b i j
        by_cases e : a[i]? = b[j]?
        · have l22 : lc (part a) (part b) (2 * i + 1 + 1) (2 * j + 1 + 1) = lc (part a) (part b) (2 * i + 1) (2 * j + 1) + 1 := by rw [lc_ss, if_pos (by rw [part_get1, part_get1, e])]
          have e22 : ed a b (i + 1) (j + 1) = ed a b i j := by rw [ed_ss, if_pos e]; omega
          omega
        · have l22 : lc (part a) (part b) (2 * i + 1 + 1) (2 * j + 1 + 1) = max (lc (part a) (part b) (2 * i + 1) (2 * j + 1 + 1)) (lc (part a) (part b) (2 * i + 1 + 1) (2 * j + 1)) := by rw [lc_ss, if_neg (by rw [part_get1, part_get1]; exact e)]
          have e22 : ed a b (i + 1) (j + 1) = min (min (ed a b i j + 1) (ed a b i (j + 1) + 1)) (ed a b (i + 1) j + 1) := by rw [ed_ss, if_neg e]
          omega
/-! ### what the costs keep -/
theorem ed_symm (a b : List Nat) (i j : Nat) : ed b a j i = ed a b i j := by
  induction h : i + j using Nat.strongRecOn generalizing i j with
  | _ n ih =>
    subst h
    cases i with
    | zero => rw [ed_s0, ed_0]
    | succ i =>
      cases j with
      | zero => rw [ed_s0, ed_0]
      | succ j =>
        rw [ed_ss, ed_ss, ih (i + j) (by omega) i j rfl, ih (i + (j + 1)) (by omega) i (j + 1) rfl, ih (i + 1 + j) (by omega) (i + 1) j rfl]
        have e : (if b[j]? = a[i]? then 0 else 1) = if a[i]? = b[j]? then 0 else 1 := by
          by_cases e : a[i]? = b[j]?
          · rw [if_pos e, if_pos e.symm]
          · rw [if_neg e, if_neg (fun z => e z.symm)]
        rw [e]
        omega
theorem ed_ge (a b : List Nat) (i j : Nat) : i ≤ j + ed a b i j ∧ j ≤ i + ed a b i j ∧ ed a b i j ≤ max i j := by
  induction h : i + j using Nat.strongRecOn generalizing i j with
  | _ n ih =>
    subst h
    cases i with
    | zero => rw [ed_0]; omega
    | succ i =>
      cases j with
      | zero => rw [ed_s0]; omega
      | succ j =>
        rw [ed_ss]
        have h1 := ih (i + j) (by omega) i j rfl
        have h2 := ih (i + (j + 1)) (by omega) i (j + 1) rfl
        have h3 := ih (i + 1 + j) (by omega) (i + 1) j rfl
        split <;> omega
theorem ed_self (a : List Nat) (i : Nat) : ed a a i i = 0 := by
  induction i with
  | zero => exact ed_0 a a 0
  | succ i ih => rw [ed_ss, if_pos rfl, ih]; omega
theorem drop_cons {l r : List Nat} {i x : Nat} (h : l.drop i = x :: r) : l[i]? = some x ∧ l.drop (i + 1) = r ∧ i < l.length := by
  have h1 : i < l.length := by
    apply Nat.lt_of_not_le
    intro z
    rw [List.drop_eq_nil_of_le z] at h
    cases h
  rw [List.drop_eq_getElem_cons h1] at h
  injection h with h2 h3
  exact ⟨by rw [List.getElem?_eq_getElem h1, h2], h3, h1⟩
theorem ed_le_pays (a b : List Nat) : ∀ (cs : List Ch) (i j : Nat), olds cs = a.drop i → news cs = b.drop j → i ≤ a.length → j ≤ b.length → ed a b a.length b.length ≤ ed a b i j + pays cs
  | [], i, j, ho, hn, hi, hj => by
    have h1 : a.length ≤ i := List.drop_eq_nil_iff.mp ho.symm
    have h2 : b.length ≤ j := List.drop_eq_nil_iff.mp hn.symm
    rw [show i = a.length by omega, show j = b.length by omega]
    exact Nat.le_add_right _ _
  | c :: cs, i, j, ho, hn, hi, hj => by
    rw [olds_cons] at ho
    rw [news_cons] at hn
    rw [pays_cons]
    cases c with
    | kp x =>
      obtain ⟨a1, a2, a3⟩ := drop_cons ho.symm
      obtain ⟨b1, b2, b3⟩ := drop_cons hn.symm
      have := ed_le_pays a b cs (i + 1) (j + 1) a2.symm b2.symm a3 b3
      rw [ed_ss, if_pos (by rw [a1, b1])] at this
      show _ ≤ _ + (0 + _)
      omega
    | cg x y =>
      obtain ⟨a1, a2, a3⟩ := drop_cons ho.symm
      obtain ⟨b1, b2, b3⟩ := drop_cons hn.symm
      have := ed_le_pays a b cs (i + 1) (j + 1) a2.symm b2.symm a3 b3
      rw [ed_ss] at this
      show _ ≤ _ + (1 + _)
      split at this <;> omega
    | ou x =>
      obtain ⟨a1, a2, a3⟩ := drop_cons ho.symm
      have := ed_le_pays a b cs (i + 1) j a2.symm hn a3 hj
      have h := ed_le_u a b i j
      show _ ≤ _ + (1 + _)
      omega
    | im x =>
      obtain ⟨b1, b2, b3⟩ := drop_cons hn.symm
      have := ed_le_pays a b cs i (j + 1) ho b2.symm hi b3
      have h := ed_le_l a b i j
      show _ ≤ _ + (1 + _)
      omega
theorem cost_le (cs : List Ch) : ed (olds cs) (news cs) (olds cs).length (news cs).length ≤ pays cs := by
  have h := ed_le_pays (olds cs) (news cs) cs 0 0 rfl rfl (Nat.zero_le _) (Nat.zero_le _)
  rw [ed_0] at h
  omega
theorem comb_one (x y : Nat) : ∃ c, comb [x] [y] = [c] ∧ c.ol = [x] ∧ c.nw = [y] ∧ c.pay = (if x = y then 0 else 1) ∧ (isLt x → isLt y → c.ok) := by
  unfold comb
  by_cases e : x = y
  · subst e
    refine ⟨.kp x, if_pos rfl, rfl, rfl, (if_pos rfl).symm, fun h _ => h⟩
  · exact ⟨.cg x y, if_neg e, rfl, rfl, (if_neg e).symm, fun h k => ⟨h, k, e⟩⟩
theorem trb_all (a b : List Nat) (ha : ∀ c ∈ a, isLt c) (hb : ∀ c ∈ b, isLt c) (i j : Nat) (hi : i ≤ a.length) (hj : j ≤ b.length) :
    olds (trb a b i j).reverse = a.take i ∧ news (trb a b i j).reverse = b.take j ∧ pays (trb a b i j).reverse = ed a b i j ∧ ∀ c ∈ trb a b i j, c.ok := by
  induction h : i + j using Nat.strongRecOn generalizing i j with
  | _ n ih =>
    subst h
    have ga : ∀ i, i < a.length → a[i]? = some (a.getD i 0) ∧ isLt (a.getD i 0) := fun i h => by
      rw [List.getD_eq_getElem?_getD, List.getElem?_eq_getElem h]; exact ⟨rfl, ha _ (List.getElem_mem h)⟩
    have gb : ∀ i, i < b.length → b[i]? = some (b.getD i 0) ∧ isLt (b.getD i 0) := fun i h => by
      rw [List.getD_eq_getElem?_getD, List.getElem?_eq_getElem h]; exact ⟨rfl, hb _ (List.getElem_mem h)⟩
    have ou : ∀ i0, i = i0 + 1 → ed a b i j = ed a b i0 j + 1 → olds (trb a b i j).reverse = a.take i ∧ news (trb a b i j).reverse = b.take j ∧ pays (trb a b i j).reverse = ed a b i j ∧ ∀ c ∈ trb a b i j, c.ok := fun i0 e q => by
      subst e
      obtain ⟨h1, h2, h3, h4⟩ := ih (i0 + j) (by omega) i0 j (by omega) hj rfl
      obtain ⟨g1, g2⟩ := ga i0 (by omega)
      rw [trb_ou q, List.reverse_cons, olds_app, news_app, pays_app, h1, h2, h3, pays_one, q]
      refine ⟨?_, ?_, rfl, fun c hc => ?_⟩
      · rw [List.take_succ, g1]; rfl
      · exact List.append_nil _
      · rcases List.mem_cons.mp hc with e | hc
        · rw [e]; exact g2
        · exact h4 c hc
    have im : ∀ j0, j = j0 + 1 → (∀ n, i = n + 1 → ed a b i (j0 + 1) ≠ ed a b n (j0 + 1) + 1) → ed a b i j = ed a b i j0 + 1 → olds (trb a b i j).reverse = a.take i ∧ news (trb a b i j).reverse = b.take j ∧ pays (trb a b i j).reverse = ed a b i j ∧ ∀ c ∈ trb a b i j, c.ok := fun j0 e z q => by
      subst e
      obtain ⟨h1, h2, h3, h4⟩ := ih (i + j0) (by omega) i j0 hi (by omega) rfl
      obtain ⟨g1, g2⟩ := gb j0 (by omega)
      rw [trb_im z q, List.reverse_cons, olds_app, news_app, pays_app, h1, h2, h3, pays_one, q]
      refine ⟨?_, ?_, rfl, fun c hc => ?_⟩
      · exact List.append_nil _
      · rw [List.take_succ, g1]; rfl
      · rcases List.mem_cons.mp hc with e | hc
        · rw [e]; exact g2
        · exact h4 c hc
    cases i with
    | zero =>
      cases j with
      | zero => rw [trb_0]; exact ⟨rfl, rfl, (ed_0 a b 0).symm, fun c hc => by cases hc⟩
      | succ j => exact im j rfl (fun n e => by cases e) (by rw [ed_0, ed_0])
    | succ i =>
      cases j with
      | zero => exact ou i rfl (by rw [ed_s0, ed_s0])
      | succ j =>
        by_cases e1 : ed a b (i + 1) (j + 1) = ed a b i (j + 1) + 1
        · exact ou i rfl e1
        · by_cases e2 : ed a b (i + 1) (j + 1) = ed a b (i + 1) j + 1
          · exact im j rfl (fun n e => by cases e; exact e1) e2
          · obtain ⟨h1, h2, h3, h4⟩ := ih (i + j) (by omega) i j (by omega) (by omega) rfl
            obtain ⟨g1, g2⟩ := ga i (by omega)
            obtain ⟨k1, k2⟩ := gb j (by omega)
            obtain ⟨c, c1, c2, c3, c4, c5⟩ := comb_one (a.getD i 0) (b.getD j 0)
            have e3 : ed a b (i + 1) (j + 1) = ed a b i j + if a[i]? = b[j]? then 0 else 1 := by rw [ed_ss] at e1 e2 ⊢; omega
            have e4 : (if a[i]? = b[j]? then 0 else 1) = if a.getD i 0 = b.getD j 0 then 0 else 1 := by
              rw [g1, k1]
              by_cases z : a.getD i 0 = b.getD j 0
              · rw [if_pos z, if_pos (by rw [z])]
              · rw [if_neg z, if_neg (fun y => z (Option.some.inj y))]
            rw [trb_both e1 e2, c1, List.singleton_append, List.reverse_cons, olds_app, news_app, pays_app, h1, h2, h3, pays_one, e3, e4, c4]
            refine ⟨?_, ?_, rfl, fun d hd => ?_⟩
            · rw [List.take_succ, g1, olds_cons, c2]; rfl
            · rw [List.take_succ, k1, news_cons, c3]; rfl
            · rcases List.mem_cons.mp hd with e | hd
              · rw [e]; exact c5 g2 k2
              · exact h4 d hd
theorem one_len (c : Ch) : 1 ≤ c.ol.length + c.nw.length := by cases c <;> simp [Ch.ol, Ch.nw]
theorem chs_len (cs : List Ch) : cs.length ≤ (olds cs).length + (news cs).length := by
  induction cs with
  | nil => exact Nat.zero_le _
  | cons c r ih =>
    rw [olds_cons, news_cons, List.length_append, List.length_append, List.length_cons]
    have := one_len c
    omega
theorem chg_all {a b : List Nat} (ha : Plain a) (hb : Plain b) : olds (chg a b) = a ∧ news (chg a b) = b ∧ pays (chg a b) = ed a b a.length b.length ∧ ChsOk (chg a b) := by
  obtain ⟨h1, h2, h3, h4⟩ := trb_all a b ha.2 hb.2 a.length b.length (Nat.le_refl _) (Nat.le_refl _)
  rw [List.take_length] at h1 h2
  refine ⟨h1, h2, h3, ?_, fun c hc => h4 c (List.mem_reverse.mp hc)⟩
  have := chs_len (chg a b)
  have e1 : olds (chg a b) = a := h1
  have e2 : news (chg a b) = b := h2
  rw [e1, e2] at this
  have := ha.1
  have := hb.1
  omega
theorem pays0 (cs : List Ch) (h : pays cs = 0) : olds cs = news cs := by
  induction cs with
  | nil => rfl
  | cons c r ih =>
    rw [pays_cons] at h
    rw [olds_cons, news_cons, ih (by omega)]
    cases c with
    | kp x => rfl
    | cg x y => have : (Ch.cg x y).pay = 1 := rfl; omega
    | ou x => have : (Ch.ou x).pay = 1 := rfl; omega
    | im x => have : (Ch.im x).pay = 1 := rfl; omega
theorem ed_zero {a b : List Nat} (ha : Plain a) (hb : Plain b) : ed a b a.length b.length = 0 ↔ a = b := by
  constructor
  · intro h
    obtain ⟨h1, h2, h3, h4⟩ := chg_all ha hb
    rw [h] at h3
    have := pays0 _ h3
    rw [h1, h2] at this
    exact this
  · intro h
    subst h
    exact ed_self a _
/-! ### changes one after the other -/
theorem comb_ol (c d : Ch) (h : c.nw ≠ []) (k : d.ol ≠ []) (e : c.nw = d.ol) : olds (comb c.ol d.nw) = c.ol ∧ news (comb c.ol d.nw) = d.nw ∧ pays (comb c.ol d.nw) ≤ c.pay + d.pay := by
  have one : ∀ x y, olds (comb [x] [y]) = [x] ∧ news (comb [x] [y]) = [y] ∧ pays (comb [x] [y]) = (if x = y then 0 else 1) := fun x y => by
    obtain ⟨c, c1, c2, c3, c4, _⟩ := comb_one x y
    rw [c1, olds_cons, news_cons, pays_one, c2, c3, c4]
    exact ⟨rfl, rfl, rfl⟩
  cases c with
  | ou x => exact absurd rfl h
  | kp x =>
    cases d with
    | im y => exact absurd rfl k
    | kp y =>
      obtain ⟨o1, o2, o3⟩ := one x y
      refine ⟨o1, o2, ?_⟩
      show pays (comb [x] [y]) ≤ 0
      rw [o3, if_pos (by injection e)]
      exact Nat.le_refl _
    | cg y z =>
      obtain ⟨o1, o2, o3⟩ := one x z
      refine ⟨o1, o2, ?_⟩
      show pays (comb [x] [z]) ≤ 0 + 1
      rw [o3]; split <;> omega
    | ou y => exact ⟨rfl, rfl, Nat.le_refl _⟩
  | cg x w =>
    cases d with
    | im y => exact absurd rfl k
    | kp y =>
      obtain ⟨o1, o2, o3⟩ := one x y
      refine ⟨o1, o2, ?_⟩
      show pays (comb [x] [y]) ≤ 1 + 0
      rw [o3]; split <;> omega
    | cg y z =>
      obtain ⟨o1, o2, o3⟩ := one x z
      refine ⟨o1, o2, ?_⟩
      show pays (comb [x] [z]) ≤ 1 + 1
      rw [o3]; split <;> omega
    | ou y => exact ⟨rfl, rfl, by show 1 ≤ 1 + 1; omega⟩
  | im w =>
    cases d with
    | im y => exact absurd rfl k
    | kp y => exact ⟨rfl, rfl, Nat.le_refl _⟩
    | cg y z => exact ⟨rfl, rfl, by show 1 ≤ 1 + 1; omega⟩
    | ou y => exact ⟨rfl, rfl, by show 0 ≤ 1 + 1; omega⟩
theorem nw_one {c : Ch} (h : c.nw ≠ []) : ∃ x, c.nw = [x] := by cases c with
  | ou x => exact absurd rfl h
  | kp x => exact ⟨_, rfl⟩
  | cg x y => exact ⟨_, rfl⟩
  | im x => exact ⟨_, rfl⟩
theorem ol_one {c : Ch} (h : c.ol ≠ []) : ∃ x, c.ol = [x] := by cases c with
  | im x => exact absurd rfl h
  | kp x => exact ⟨_, rfl⟩
  | cg x y => exact ⟨_, rfl⟩
  | ou x => exact ⟨_, rfl⟩
theorem aft_all (cs ds : List Ch) (h : news cs = olds ds) : olds (aft cs ds) = olds cs ∧ news (aft cs ds) = news ds ∧ pays (aft cs ds) ≤ pays cs + pays ds := by
  induction hn : cs.length + ds.length using Nat.strongRecOn generalizing cs ds with
  | _ n ih =>
    subst hn
    cases cs with
    | nil =>
      rw [aft_nil]
      exact ⟨h.symm, rfl, Nat.le_add_left _ _⟩
    | cons c cs =>
      by_cases e : c.nw = []
      · rw [aft_out cs ds e]
        obtain ⟨h1, h2, h3⟩ := ih (cs.length + ds.length) (by simp only [List.length_cons]; omega) cs ds (by rw [news_cons, e] at h; exact h) rfl
        rw [olds_cons, news_cons, pays_cons, olds_cons, pays_cons, h1, h2, e]
        exact ⟨rfl, rfl, by omega⟩
      · obtain ⟨x, hx⟩ := nw_one e
        cases ds with
        | nil => rw [news_cons, hx] at h; cases h
        | cons d ds =>
          by_cases e2 : d.ol = []
          · rw [aft_in cs ds e e2]
            obtain ⟨h1, h2, h3⟩ := ih ((c :: cs).length + ds.length) (by simp only [List.length_cons]; omega) (c :: cs) ds (by rw [h, olds_cons, e2]; rfl) rfl
            rw [olds_cons, news_cons, pays_cons, news_cons, pays_cons d ds, h1, h2, e2]
            exact ⟨rfl, rfl, by omega⟩
          · obtain ⟨y, hy⟩ := ol_one e2
            rw [news_cons, olds_cons, hx, hy] at h
            injection h with h0 h'
            obtain ⟨h1, h2, h3⟩ := ih (cs.length + ds.length) (by simp only [List.length_cons]; omega) cs ds h' rfl
            obtain ⟨o1, o2, o3⟩ := comb_ol c d e e2 (by rw [hx, hy, h0])
            rw [aft_both cs ds e e2, olds_app, news_app, pays_app, olds_cons, news_cons, pays_cons, pays_cons, h1, h2, o1, o2]
            exact ⟨rfl, rfl, by omega⟩
theorem aft_len (cs ds : List Ch) (h : news cs = olds ds) : (aft cs ds).length ≤ (olds cs).length + (news ds).length := by
  have h1 := chs_len (aft cs ds)
  obtain ⟨h2, h3, _⟩ := aft_all cs ds h
  rw [h2, h3] at h1
  exact h1
theorem news_ok {cs : List Ch} (h : ∀ c ∈ cs, c.ok) : ∀ x ∈ news cs, isLt x := by
  induction cs with
  | nil => intro x hx; cases hx
  | cons c r ih =>
    intro x hx
    rw [news_cons] at hx
    rcases List.mem_append.mp hx with k | k
    · have hc := h c (by simp)
      cases c with
      | kp a => rw [List.mem_singleton.mp k]; exact hc
      | cg a b => rw [List.mem_singleton.mp k]; exact hc.2.1
      | ou a => cases k
      | im a => rw [List.mem_singleton.mp k]; exact hc
    · exact ih (fun c hc => h c (by simp [hc])) x k
/-- changes that lead back -/
theorem bk_all (cs : List Ch) : olds (cs.map Ch.bk) = news cs ∧ news (cs.map Ch.bk) = olds cs ∧ pays (cs.map Ch.bk) = pays cs := by
  induction cs with
  | nil => exact ⟨rfl, rfl, rfl⟩
  | cons c r ih =>
    obtain ⟨h1, h2, h3⟩ := ih
    rw [List.map_cons, olds_cons, news_cons, pays_cons, olds_cons, news_cons, pays_cons, h1, h2, h3]
    cases c <;> exact ⟨rfl, rfl, rfl⟩
theorem bk_ok {cs : List Ch} (h : ChsOk cs) : ChsOk (cs.map Ch.bk) := by
  refine ⟨by rw [List.length_map]; exact h.1, fun c hc => ?_⟩
  obtain ⟨d, hd, rfl⟩ := List.mem_map.mp hc
  have := h.2 d hd
  cases d with
  | kp x => exact this
  | cg x y => exact ⟨this.2.1, this.1, fun e => this.2.2 e.symm⟩
  | ou x => exact this
  | im x => exact this
end Pk
namespace Pk
open PySem PySem.Spec
open PyProof.Rows L2
/-! ### the shapes of data that are compared -/
def Shp (n : Nat) (d : PyData) : Prop := d.canLay0 = true ∧ d.depth ≤ n
theorem shp_list {n : Nat} {α : Type} {f : α → PyData} {l : List α} (h : ∀ x ∈ l, Shp n (f x)) : Shp (n + 1) (.list (l.map f)) := by
  have h2 : PyData.canLayAll0 (l.map f) = true ∧ PyData.depthAll (l.map f) ≤ n := by
    induction l with
    | nil => simp [PyData.canLayAll0, PyData.depthAll]
    | cons x r ih =>
      obtain ⟨a1, a2⟩ := h x (by simp)
      obtain ⟨b1, b2⟩ := ih fun y hy => h y (by simp [hy])
      simp only [List.map_cons, PyData.canLayAll0, PyData.depthAll, a1, b1, Bool.and_self, true_and]
      omega
  refine ⟨by simp only [PyData.canLay0]; exact h2.1, ?_⟩
  simp only [PyData.depth]
  omega
theorem shp_tup {n : Nat} {l : List PyData} (h : ∀ x ∈ l, Shp n x) : Shp (n + 1) (.tuple l) := by
  have h2 : PyData.canLayAll0 l = true ∧ PyData.depthAll l ≤ n := by
    induction l with
    | nil => simp [PyData.canLayAll0, PyData.depthAll]
    | cons x r ih =>
      obtain ⟨a1, a2⟩ := h x (by simp)
      obtain ⟨b1, b2⟩ := ih fun y hy => h y (by simp [hy])
      simp only [PyData.canLayAll0, PyData.depthAll, a1, b1, Bool.and_self, true_and]
      omega
  refine ⟨by simp only [PyData.canLay0]; exact h2.1, ?_⟩
  simp only [PyData.depth]
  omega
theorem Shp.ok {n : Nat} {d : PyData} (h : Shp n d) (hn : n ≤ 64) : SeqAt.shaped d = true := by
  unfold SeqAt.shaped
  rw [h.1, decide_eq_true (Nat.le_trans h.2 hn)]
  rfl
theorem shp_int (i : Int) : Shp 1 (.int i) := ⟨by simp [PyData.canLay0], by simp [PyData.depth]⟩
theorem shp_one {c : Nat} (h : c < 0x110000) : Shp 1 (.str (tx [c])) := ⟨by simp [PyData.canLay0, PyData.strOk, tx, h], by simp [PyData.depth]⟩
theorem shp_kd (c : Ch) : Shp 1 (.str c.kd) := ⟨match c with
  | .kp _ => (by decide +kernel : (PyData.str "keep").canLay0 = true)
  | .cg _ _ => (by decide +kernel : (PyData.str "change").canLay0 = true)
  | .ou _ => (by decide +kernel : (PyData.str "out").canLay0 = true)
  | .im _ => (by decide +kernel : (PyData.str "in").canLay0 = true), by simp [PyData.depth]⟩
theorem shp_pr (p : Nat × Nat) : Shp 2 (ePr p) := shp_tup fun x hx => by
  rcases List.mem_cons.mp hx with e | hx
  · rw [e]; exact shp_int _
  · rw [List.mem_singleton.mp hx]; exact shp_int _
theorem shp_ii (i j : Int) : Shp 2 (.tuple [.int i, .int j]) := shp_tup fun x hx => by
  rcases List.mem_cons.mp hx with e | hx
  · rw [e]; exact shp_int _
  · rw [List.mem_singleton.mp hx]; exact shp_int _
theorem shp_prs (ps : List (Nat × Nat)) : Shp 3 (ePrs ps) := shp_list fun p _ => shp_pr p
theorem shp_hps (hs : List (List (Nat × Nat))) : Shp 4 (eHps hs) := shp_list fun p _ => shp_prs p
theorem dCh_eq (c : Ch) : dCh c = .str c.kd :: c.ls.map fun a => PyData.str (tx [a]) := by cases c <;> rfl
theorem shp_ch {c : Ch} (h : c.ok) : Shp 2 (eCh c) := by
  unfold eCh
  rw [dCh_eq]
  refine shp_tup fun x hx => ?_
  rcases List.mem_cons.mp hx with e | hx
  · rw [e]; exact shp_kd c
  · obtain ⟨a, ha, rfl⟩ := List.mem_map.mp hx
    have := Ch.ok_ls h a ha
    unfold isLt at this
    exact shp_one (by omega)
theorem shp_chs {cs : List Ch} (h : ∀ c ∈ cs, c.ok) : Shp 3 (eChs cs) := shp_list fun c hc => shp_ch (h c hc)
theorem eqv_same {n : Nat} {d : PyData} (h : Shp n d) : PyData.eqv d d = true := SeqAt.eqv_refl d h.1
theorem eqv_ii (i j k l : Int) : PyData.eqv (.tuple [.int i, .int j]) (.tuple [.int k, .int l]) = (decide (i = k) && decide (j = l)) := by
  simp [PyData.eqv, PyData.eqvAll]
  by_cases h : i = k <;> by_cases h2 : j = l <;> simp [h, h2]
theorem eqv_prs_nil {ps : List (Nat × Nat)} (h : ps ≠ []) : PyData.eqv (ePrs ps) (.list []) = false := by
  cases ps with
  | nil => exact absurd rfl h
  | cons p r => simp [ePrs, PyData.eqv, PyData.eqvAll]
theorem iteE {b : Bool} {A B : Prop} (h : b = false) (k : B) : if b = true then A else B := by rw [h]; exact k
theorem iteY {b : Bool} {A B : Prop} (h : b = true) (k : A) : if b = true then A else B := by rw [h]; exact k
section
variable {σ : L2.St} {H : Hp} {te : TE} {t : TT} {D : Ends} {t1 tu : TS} {v : V}
theorem x_ifC (k : t σ H fun b H1 => if b = true then t1 { D with nx := tu D } σ H1 else tu D σ H1) : tSeq (tIfS t t1 tNext) tu D σ H := k
theorem x_setT {g : TG} (k : te σ H fun v H1 => g v σ H1 fun σ2 H2 => tu D σ2 H2) : tSeq (tAsg te g) tu D σ H := k
theorem y_setT {g : TG} (k : te σ H fun v H1 => g v σ H1 fun σ2 H2 => D.nx σ2 H2) : tAsg te g D σ H := k
theorem x_doC (k : t1 { D with nx := tu D } σ H) : tSeq t1 tu D σ H := k
theorem y_next (k : D.nx σ H) : tNext D σ H := k
end
/-! ### heaps -/
def prOk (a b : List Nat) (p : Nat × Nat) : Prop := p.1 < a.length ∧ p.2 < b.length ∧ a[p.1]? = b[p.2]?
def HeapOk (a b : List Nat) (ps : List (Nat × Nat)) : Prop := ps ≠ [] ∧ (∀ p ∈ ps, prOk a b p) ∧ ps.Nodup ∧ ∀ p ∈ ps, ∀ q ∈ ps, ¬ (p.1 < q.1 ∧ p.2 < q.2)
/-- all pairs -/
def prs1 (a b : List Nat) (i : Nat) : List (Nat × Nat) := ((List.range b.length).filter fun j => decide (b[j]? = a[i]?)).map fun j => (i, j)
def prs (a b : List Nat) : List (Nat × Nat) := (List.range a.length).flatMap (prs1 a b)
def HeapsOk (a b : List Nat) (hs : List (List (Nat × Nat))) : Prop := (∀ h ∈ hs, HeapOk a b h) ∧ hs.flatten.Perm (prs a b)
/-- by the first, then by the second -/
def lexN (p q : Nat × Nat) : Prop := p.1 < q.1 ∨ p.1 = q.1 ∧ p.2 < q.2
theorem prs_mem {a b : List Nat} {p : Nat × Nat} : p ∈ prs a b ↔ prOk a b p := by
  unfold prs prs1 prOk
  simp only [List.mem_flatMap, List.mem_range, List.mem_map, List.mem_filter, decide_eq_true_eq]
  constructor
  · rintro ⟨i, hi, j, ⟨hj, e⟩, rfl⟩
    exact ⟨hi, hj, e.symm⟩
  · rintro ⟨h1, h2, e⟩
    exact ⟨p.1, h1, p.2, ⟨h2, e.symm⟩, rfl⟩
theorem prs_srt (a b : List Nat) : (prs a b).Pairwise lexN := by
  unfold prs
  generalize hn : a.length = n
  clear hn
  have one : ∀ i, (prs1 a b i).Pairwise lexN := fun i => by
    unfold prs1
    refine List.Pairwise.map _ (R := fun x y : Nat => x < y) (fun x y h => .inr ⟨rfl, h⟩) ?_
    exact List.Pairwise.filter _ List.pairwise_lt_range
  induction n with
  | zero => exact List.Pairwise.nil
  | succ n ih =>
    rw [List.range_succ, List.flatMap_append]
    refine List.pairwise_append.mpr ⟨ih, by simpa using one n, fun p hp q hq => ?_⟩
    obtain ⟨i, hi, hp⟩ := List.mem_flatMap.mp hp
    have hq : q ∈ prs1 a b n := by simpa using hq
    obtain ⟨j, _, rfl⟩ := List.mem_map.mp hp
    obtain ⟨k, _, rfl⟩ := List.mem_map.mp hq
    exact .inl (List.mem_range.mp hi)
theorem prs_nodup (a b : List Nat) : (prs a b).Nodup := (prs_srt a b).imp fun h e => by
  subst e
  rcases h with h | h <;> omega
theorem prs_len (a b : List Nat) : (prs a b).length ≤ a.length * b.length := by
  unfold prs
  generalize hn : a.length = n
  clear hn
  induction n with
  | zero => exact Nat.zero_le _
  | succ n ih =>
    rw [List.range_succ, List.flatMap_append, List.length_append]
    have : ([n].flatMap (prs1 a b)).length ≤ b.length := by
      have h := List.length_filter_le (fun j => decide (b[j]? = a[n]?)) (List.range b.length)
      rw [List.length_range] at h
      simpa [prs1] using h
    have e : (n + 1) * b.length = n * b.length + b.length := by rw [Nat.succ_mul]
    omega
/-- what a list of pairs of ints at addresses says, in a heap -/
def kOf (H : Hp) : V → Int × Int
  | .ref t => match H t with
    | some (.tup [.int i, .int j]) => (i, j)
    | _ => (0, 0)
  | _ => (0, 0)
theorem kOf_at {H : Hp} {t : Addr} {i j : Int} (h : H t = some (.tup [.int i, .int j])) : kOf H (.ref t) = (i, j) := by
  unfold kOf
  simp only [h]
theorem lex_uniq {l m : List (Int × Int)} (hl : l.Pairwise fun x y => SrtO.lexB y x = false) (hm : m.Pairwise fun x y => SrtO.lexB y x = false) (p : l.Perm m) : l = m := by
  induction l generalizing m with
  | nil => exact (List.Perm.nil_eq p)
  | cons x l ih =>
    cases m with
    | nil => exact absurd p.length_eq (by simp)
    | cons y m =>
      have h1 : SrtO.lexB y x = false ∨ x = y := by
        rcases List.mem_cons.mp (p.mem_iff.mpr (List.mem_cons_self (a := y) (l := m))) with e | h
        · exact .inr e.symm
        · exact .inl ((List.pairwise_cons.mp hl).1 y h)
      have h2 : SrtO.lexB x y = false ∨ x = y := by
        rcases List.mem_cons.mp (p.mem_iff.mp (List.mem_cons_self (a := x) (l := l))) with e | h
        · exact .inr e
        · exact .inl ((List.pairwise_cons.mp hm).1 x h)
      have e : x = y := by
        rcases h1 with h1 | h1
        · rcases h2 with h2 | h2
          · have a := SrtO.lexB_no.mp h1
            have b := SrtO.lexB_no.mp h2
            obtain ⟨x1, x2⟩ := x
            obtain ⟨y1, y2⟩ := y
            simp only at a b
            have : x1 = y1 ∧ x2 = y2 := by omega
            rw [this.1, this.2]
          · exact h2
        · exact h1
      subst e
      rw [ih (List.pairwise_cons.mp hl).2 (List.pairwise_cons.mp hm).2 (List.Perm.cons_inv p)]
/-! ### sorted pairs -/
def dII (z : Int × Int) : PyData := .tuple [.int z.1, .int z.2]
theorem ePr_ii (p : Nat × Nat) : ePr p = dII ((p.1 : Int), (p.2 : Int)) := rfl
theorem At.ii_ {S : Hp} {v : V} {z : Int × Int} (h : At S v (dII z)) : ∃ a, v = .ref a ∧ S a = some (.tup [.int z.1, .int z.2]) := by
  obtain ⟨a, xs, e, h1, h2⟩ := h.tup_
  obtain ⟨v1, r1, rfl, a1, b1⟩ := h2.cons_
  obtain ⟨v2, r2, rfl, a2, b2⟩ := b1.cons_
  rw [b2.nil_, a1.int_, a2.int_] at h1
  exact ⟨a, e, h1⟩
theorem At.ii {S : Hp} {a : Addr} {z : Int × Int} (h : S a = some (.tup [.int z.1, .int z.2])) : At S (.ref a) (dII z) := .tup h (.cons (.int _) (.cons (.int _) .nil))
theorem ata_perm {S : Hp} {ws ys : List V} (p : ws.Perm ys) : ∀ {zs : List (Int × Int)}, AtA S ws (zs.map dII) → ∃ qs, zs.Perm qs ∧ AtA S ys (qs.map dII) := by
  induction p with
  | nil => intro zs h; exact ⟨zs, List.Perm.refl _, h⟩
  | cons x p ih =>
    intro zs h
    cases zs with
    | nil => cases h
    | cons z zs =>
      cases h with
      | cons h1 h2 =>
        obtain ⟨qs, k1, k2⟩ := ih h2
        exact ⟨z :: qs, List.Perm.cons z k1, .cons h1 k2⟩
  | swap x y l =>
    intro zs h
    cases zs with
    | nil => cases h
    | cons z zs =>
      cases zs with
      | nil => cases h with
        | cons h1 h2 => cases h2
      | cons z2 zs => cases h with
        | cons h1 h2 => cases h2 with
          | cons h3 h4 => exact ⟨z2 :: z :: zs, List.Perm.swap _ _ _, .cons h3 (.cons h1 h4)⟩
  | trans p q ih1 ih2 =>
    intro zs h
    obtain ⟨qs, k1, k2⟩ := ih1 h
    obtain ⟨rs, l1, l2⟩ := ih2 k2
    exact ⟨rs, k1.trans l1, l2⟩
theorem ata_k {S H : Hp} (e : Ex S H) : ∀ {ys : List V} {qs : List (Int × Int)}, AtA S ys (qs.map dII) → ys.map (kOf H) = qs
  | _, [], h => by cases h; rfl
  | _, z :: qs, h => by
    cases h with
    | cons h1 h2 =>
      obtain ⟨a, rfl, h3⟩ := h1.ii_
      rw [List.map_cons, kOf_at (e _ _ h3), ata_k e h2]
abbrev SrtI (zs : List (Int × Int)) : Prop := zs.Pairwise fun x y => SrtO.lexB y x = false
theorem c_sorted {K : PySem.W.Frag} {S H : Hp} {Q : VK} {D : Addr} {ws : List V} {zs : List (Int × Int)} (hD : H D = some (.lst ws)) (hA : AtA S ws (zs.map dII)) (e : Ex S H)
    (k : ∀ qs ys p, qs.Perm zs → SrtI qs → AtA S ys (qs.map dII) → H p = none → Q (.ref p) (upd H p (.lst ys))) : rSortedPO K [.ref D] H Q := by
  refine ⟨D, ws, kOf H, rfl, SqL.of hD, fun x hx => ?_, fun ys p s1 s2 hp => ?_⟩
  · obtain ⟨z, hz, hat⟩ := hA.mem x hx
    obtain ⟨a, rfl, ha⟩ := hat.ii_
    refine ⟨a, rfl, ?_⟩
    rw [kOf_at (e _ _ ha)]
    exact e _ _ ha
  · obtain ⟨qs, k1, k2⟩ := ata_perm s2.perm.symm hA
    refine k qs ys p k1.symm ?_ k2 hp
    rw [← ata_k e k2]
    exact List.pairwise_map.mpr s1
/-- a pair as it is sorted in a heap -/
def nPr (p : Nat × Nat) : Int × Int := ((p.1 : Int), -(p.2 : Int))
def yPr (p : Nat × Nat) : Int × Int := ((p.1 : Int), (p.2 : Int))
theorem heap_walk {a b : List Nat} {ps : List (Nat × Nat)} {zs : List (Int × Int)} (h : HeapOk a b ps) (p : zs.Perm (ps.map nPr)) (s : SrtI zs) {n : Nat} {z : Int × Int} (hz : zs[n]? = some z) :
    0 ≤ z.1 ∧ -z.2 < (b.length : Int) ∧ ∀ z' m, n = m + 1 → zs[m]? = some z' → z ≠ z' ∧ -z.2 ≤ -z'.2 := by
  obtain ⟨_, h1, h2, h3⟩ := h
  have mem : ∀ z ∈ zs, ∃ q ∈ ps, z = nPr q := fun z hz => by
    obtain ⟨q, hq, e⟩ := List.mem_map.mp (p.mem_iff.mp hz)
    exact ⟨q, hq, e.symm⟩
  have hn : zs.Nodup := p.symm.nodup (List.Pairwise.map _ (fun x y e z => e (by
    unfold nPr at z
    injection z with z1 z2
    obtain ⟨x1, x2⟩ := x
    obtain ⟨y1, y2⟩ := y
    simp only at z1 z2
    rw [show x1 = y1 by omega, show x2 = y2 by omega])) h2)
  obtain ⟨q, hq, rfl⟩ := mem z (List.mem_of_getElem? hz)
  have hb := (h1 q hq).2.1
  refine ⟨by unfold nPr; simp only; omega, by unfold nPr; simp only; omega, fun z' m e hz' => ?_⟩
  subst e
  obtain ⟨q', hq', rfl⟩ := mem z' (List.mem_of_getElem? hz')
  obtain ⟨l1, e1⟩ := List.getElem?_eq_some_iff.mp hz
  obtain ⟨l2, e2⟩ := List.getElem?_eq_some_iff.mp hz'
  have s1 := List.pairwise_iff_getElem.mp s m (m + 1) l2 l1 (by omega)
  have n1 := List.pairwise_iff_getElem.mp hn m (m + 1) l2 l1 (by omega)
  rw [e1, e2] at s1 n1
  refine ⟨fun z => n1 z.symm, ?_⟩
  have s2 := SrtO.lexB_no.mp s1
  have s3 := h3 q' hq' q hq
  unfold nPr at s2 ⊢
  simp only at s2 ⊢
  omega
theorem heaps_sorted {a b : List Nat} {ps : List (Nat × Nat)} {zs : List (Int × Int)} (h : ps.Perm (prs a b)) (p : zs.Perm (ps.map yPr)) (s : SrtI zs) : zs = (prs a b).map yPr := by
  refine lex_uniq s ?_ (p.trans (h.map _))
  refine List.pairwise_map.mpr ((prs_srt a b).imp fun {x y} q => ?_)
  refine SrtO.lexB_no.mpr ?_
  unfold yPr
  simp only
  unfold lexN at q
  omega
theorem flat_len {α : Type} (hs : List (List α)) (h : ∀ x ∈ hs, x ≠ []) : hs.length ≤ hs.flatten.length := by
  induction hs with
  | nil => exact Nat.le_refl _
  | cons x r ih =>
    have h1 := ih fun y hy => h y (by simp [hy])
    have h2 := List.length_pos_iff.mpr (h x (by simp))
    rw [List.length_cons, List.flatten_cons, List.length_append]
    omega
theorem heaps_len {a b : List Nat} {hs : List (List (Nat × Nat))} (h : HeapsOk a b hs) (ha : a.length ≤ 48) (hb : b.length ≤ 48) : hs.length ≤ hs.flatten.length ∧ hs.flatten.length ≤ 2304 := by
  refine ⟨flat_len hs fun x hx => (h.1 x hx).1, ?_⟩
  rw [h.2.length_eq]
  have h1 := prs_len a b
  have h2 : a.length * b.length ≤ 48 * 48 := Nat.mul_le_mul ha hb
  omega
theorem flat_mem_len {α : Type} {hs : List (List α)} {x : List α} (h : x ∈ hs) : x.length ≤ hs.flatten.length := by
  induction hs with
  | nil => cases h
  | cons y r ih =>
    rw [List.flatten_cons, List.length_append]
    rcases List.mem_cons.mp h with e | h
    · rw [e]; omega
    · have := ih h; omega
/-- where a sign stands -/
def pos (b : List Nat) (n c : Nat) : List Nat := (List.range n).filter fun j => decide (b[j]? = some c)
theorem pos_succ (b : List Nat) (n c : Nat) : pos b (n + 1) c = if b[n]? = some c then pos b n c ++ [n] else pos b n c := by
  unfold pos
  rw [List.range_succ, List.filter_append]
  by_cases h : b[n]? = some c
  · rw [if_pos h]; simp [h]
  · rw [if_neg h]; simp [h]
theorem pos_len (b : List Nat) (n c : Nat) : (pos b n c).length ≤ n := by
  have := List.length_filter_le (fun j => decide (b[j]? = some c)) (List.range n)
  rwa [List.length_range] at this
theorem prs1_pos {a b : List Nat} {i c : Nat} (h : a[i]? = some c) : prs1 a b i = (pos b b.length c).map fun j => (i, j) := by unfold prs1 pos; rw [h]
def Plc (S : Hp) (kvs : List (Key × V)) (c : Nat) (l : List Nat) : Prop :=
  (l = [] ∧ valV kvs (.inr (tx [c])) = none) ∨ ∃ p, valV kvs (.inr (tx [c])) = some (.ref p) ∧ S p = some (.lst (l.map fun j => V.int (j : Nat)))
/-- all that is new stands still from now on -/
theorem Gw.all {S H S1 H1 : Hp} (g : Gw S H S1 H1) : Gw S H (fun a => if H a = none then H1 a else S1 a) H1 := by
  refine ⟨g.h, fun a o e => ?_, fun a o e => ?_, fun a h1 h2 => ?_⟩
  · by_cases q : H a = none
    · have := g.free (p := a)
      show (if H a = none then H1 a else S1 a) = some o
      rw [if_pos q]
      exact g.i _ _ (g.s _ _ e)
    · show (if H a = none then H1 a else S1 a) = some o
      rw [if_neg q]
      exact g.s _ _ e
  · have e' : (if H a = none then H1 a else S1 a) = some o := e
    by_cases q : H a = none
    · rw [if_pos q] at e'; exact e'
    · rw [if_neg q] at e'; exact g.i _ _ e'
  · show (if H a = none then H1 a else S1 a) = none
    rw [if_neg h1]
    exact g.n a h1 h2
end Pk
namespace Pk
open PySem PySem.Spec
open PyProof.Rows L2
/-! ### turnings -/
def Turn (ls : List Nat) : Prop := ls.length ≤ 96 ∧ ls.Perm (List.range ls.length)
def natV (ls : List Nat) : List V := ls.map fun x => V.int (x : Nat)
def natI (ls : List Nat) : List Int := ls.map fun x => ((x : Nat) : Int)
theorem natI_v (ls : List Nat) : (natI ls).map V.int = natV ls := by unfold natI natV; rw [List.map_map]; rfl
theorem natV_len (ls : List Nat) : (natV ls).length = ls.length := List.length_map _
theorem natV_get {ls : List Nat} {i x : Nat} (h : ls[i]? = some x) : (natV ls)[i]? = some (V.int (x : Nat)) := map_get h
theorem At.nat_ {S : Hp} {v : V} {ls : List Nat} (h : At S v (eIL (natI ls))) : ∃ p, v = .ref p ∧ S p = some (.lst (natV ls)) := by
  obtain ⟨p, e, h1⟩ := At.il_ h
  rw [natI_v] at h1
  exact ⟨p, e, h1⟩
theorem At.nat {S : Hp} {p : Addr} {ls : List Nat} (h : S p = some (.lst (natV ls))) : At S (.ref p) (eIL (natI ls)) := .lst h (by rw [← natI_v]; exact AtA.of_ints _)
/-- a list by its index -/
def gV (f : Nat → V) (n : Nat) : List V := (List.range n).map f
theorem gV_len (f : Nat → V) (n : Nat) : (gV f n).length = n := by unfold gV; simp
theorem gV_get {f : Nat → V} {n i : Nat} (h : i < n) : (gV f n)[i]? = some (f i) := rm_get h
theorem gV_rep (v : V) (n : Nat) : List.replicate n v = gV (fun _ => v) n := by
  unfold gV
  apply List.ext_getElem?
  intro i
  by_cases h : i < n
  · rw [rm_get h, List.getElem?_replicate, if_pos h]
  · rw [List.getElem?_eq_none (by simpa using h), List.getElem?_eq_none (by simpa using h)]
theorem gV_ext {f g : Nat → V} {n : Nat} (h : ∀ i, i < n → f i = g i) : gV f n = gV g n := List.map_congr_left fun i hi => h i (List.mem_range.mp hi)
theorem gV_set (f : Nat → V) (n j : Nat) (v : V) : (gV f n).set j v = gV (fun i => if i = j then v else f i) n := by
  apply List.ext_getElem?
  intro i
  by_cases h : i < n
  · rw [gV_get h, List.getElem?_set]
    by_cases e : j = i
    · subst e; simp [gV_len, h]
    · rw [if_neg e, gV_get h, if_neg (fun z => e z.symm)]
  · rw [List.getElem?_eq_none (by rw [List.length_set, gV_len]; omega), List.getElem?_eq_none (by rw [gV_len]; omega)]
theorem ixN_n {n j : Nat} (h : j < n) : ixN n ((j : Nat) : Int) = some j := by
  unfold ixN
  rw [if_pos (by omega), if_pos (by omega)]
  rfl
theorem drop_min {α : Type} (xs : List α) (i : Nat) : xs.drop (min i xs.length) = xs.drop i := by
  by_cases h : i ≤ xs.length
  · rw [Nat.min_eq_left h]
  · rw [Nat.min_eq_right (by omega), List.drop_length, List.drop_eq_nil_of_le (by omega)]
theorem cut_from (xs : List V) (i : Nat) : cutV xs (some (i : Int)) none = xs.drop i := by
  unfold cutV
  rw [HT.sIx_nat, HT.sIx_none, drop_min]
  refine List.take_of_length_le ?_
  rw [List.length_drop]
  omega
theorem cut_to (xs : List V) (i : Nat) : cutV xs none (some (i : Int)) = xs.take i := by
  unfold cutV
  rw [HT.sIx_nat, HT.sIx_none, Nat.sub_zero, List.drop_zero]
  by_cases h : i ≤ xs.length
  · rw [Nat.min_eq_left h]
  · rw [Nat.min_eq_right (by omega), List.take_length, List.take_of_length_le (by omega)]
theorem c_lst1 {te : TE} {σ : L2.St} {H : Hp} {Q : VK} (h : te σ H fun v H1 => 1 ≤ sizeLine ∧ ∀ p, H1 p = none → Q (.ref p) (upd H1 p (.lst [v]))) : tLst (tCons te tNil) σ H Q := h
theorem one_sz : 1 ≤ sizeLine := by decide
theorem flat_take_succ {α : Type} {f : List (List α)} {n : Nat} {x : List α} (h : f[n]? = some x) : (f.take (n + 1)).flatten.length = (f.take n).flatten.length + x.length := by
  rw [List.take_succ, h, Option.toList_some, List.flatten_append, List.length_append, List.flatten_cons, List.flatten_nil, List.append_nil]
theorem ata_ints {S : Hp} (ns : List Int) : AtA S (ns.map V.int) (ns.map PyData.int) := AtA.of_ints ns
/-- the turning back -/
def opp (ls : List Nat) : List Nat := (List.range ls.length).map fun g => ls.idxOf g
theorem opp_len (ls : List Nat) : (opp ls).length = ls.length := by unfold opp; simp
theorem Turn.nd {ls : List Nat} (h : Turn ls) : ls.Nodup := h.2.symm.nodup List.nodup_range
theorem Turn.lt {ls : List Nat} (h : Turn ls) {x : Nat} (hx : x ∈ ls) : x < ls.length := List.mem_range.mp (h.2.mem_iff.mp hx)
theorem Turn.mem {ls : List Nat} (h : Turn ls) {g : Nat} (hg : g < ls.length) : g ∈ ls := h.2.mem_iff.mpr (List.mem_range.mpr hg)
theorem Turn.ix {ls : List Nat} (h : Turn ls) {k g : Nat} (e : ls[k]? = some g) : ls.idxOf g = k := by
  obtain ⟨hk, e⟩ := List.getElem?_eq_some_iff.mp e
  rw [← e]
  exact h.nd.idxOf_getElem k hk
theorem Turn.ix' {ls : List Nat} (h : Turn ls) {g : Nat} (hg : g < ls.length) : ls.idxOf g < ls.length ∧ ls[ls.idxOf g]? = some g := by
  have h1 := List.idxOf_lt_length_of_mem (h.mem hg)
  exact ⟨h1, by rw [List.getElem?_eq_getElem h1, List.getElem_idxOf]⟩
theorem opp_get {ls : List Nat} {g : Nat} (h : g < ls.length) : (opp ls)[g]? = some (ls.idxOf g) := rm_get h
theorem Turn.opp {ls : List Nat} (h : Turn ls) : Turn (opp ls) := by
  refine ⟨by rw [opp_len]; exact h.1, ?_⟩
  rw [opp_len]
  have nd : (Pk.opp ls).Nodup := by
    unfold Pk.opp
    refine List.Pairwise.map _ (R := fun x y : Nat => x ≠ y ∧ x < ls.length ∧ y < ls.length) (fun x y hxy e => ?_) ?_
    · have h1 := (h.ix' hxy.2.1).2
      have h2 := (h.ix' hxy.2.2).2
      rw [e, h2] at h1
      exact hxy.1 (Option.some.inj h1).symm
    · refine List.Pairwise.imp_of_mem (R := fun x y : Nat => x ≠ y) (fun hx hy e => ⟨e, List.mem_range.mp hx, List.mem_range.mp hy⟩) List.nodup_range
  refine (List.perm_ext_iff_of_nodup nd List.nodup_range).mpr fun x => ?_
  constructor
  · intro hx
    obtain ⟨g, hg, rfl⟩ := List.mem_map.mp hx
    exact List.mem_range.mpr (h.ix' (List.mem_range.mp hg)).1
  · intro hx
    have hx := List.mem_range.mp hx
    have e := List.getElem?_eq_getElem hx
    refine List.mem_map.mpr ⟨ls[x], List.mem_range.mpr (h.lt (List.getElem_mem hx)), h.ix e⟩
theorem Turn.opp_opp {ls : List Nat} (h : Turn ls) : Pk.opp (Pk.opp ls) = ls := by
  apply List.ext_getElem?
  intro g
  by_cases hg : g < ls.length
  · rw [opp_get (by rw [opp_len]; exact hg), List.getElem?_eq_getElem hg]
    refine congrArg some (h.opp.ix ?_)
    have e := List.getElem?_eq_getElem hg
    rw [opp_get (h.lt (List.getElem_mem hg)), h.ix e]
  · rw [List.getElem?_eq_none (by rw [opp_len, opp_len]; omega), List.getElem?_eq_none (by omega)]
/-- as it is written down -/
def oppV (ls : List Nat) (k : Nat) : List V := gV (fun g => if ls.idxOf g < k then V.int (ls.idxOf g : Nat) else V.int 0) ls.length
def seenV (ls : List Nat) (k : Nat) : List V := gV (fun g => V.bl (decide (ls.idxOf g < k))) ls.length
theorem oppV_len (ls : List Nat) (k : Nat) : (oppV ls k).length = ls.length := gV_len _ _
theorem seenV_len (ls : List Nat) (k : Nat) : (seenV ls k).length = ls.length := gV_len _ _
theorem Turn.oppV_step {ls : List Nat} (h : Turn ls) {k g : Nat} (e : ls[k]? = some g) : (oppV ls k).set g (V.int (k : Nat)) = oppV ls (k + 1) := by
  unfold oppV
  rw [gV_set]
  refine gV_ext fun i hi => ?_
  have h0 := h.ix e
  by_cases q : i = g
  · rw [if_pos q, q, if_pos (by omega), h0]
  · rw [if_neg q]
    have h1 : ls.idxOf i ≠ k := fun z => by
      have := (h.ix' hi).2
      rw [z, e] at this
      exact q (Option.some.inj this).symm
    by_cases q2 : ls.idxOf i < k
    · rw [if_pos q2, if_pos (by omega)]
    · rw [if_neg q2, if_neg (by omega)]
theorem Turn.seenV_step {ls : List Nat} (h : Turn ls) {k g : Nat} (e : ls[k]? = some g) : (seenV ls k).set g (V.bl true) = seenV ls (k + 1) := by
  unfold seenV
  rw [gV_set]
  refine gV_ext fun i hi => ?_
  have h0 := h.ix e
  by_cases q : i = g
  · rw [if_pos q, q, decide_eq_true (by omega)]
  · rw [if_neg q]
    have h1 : ls.idxOf i ≠ k := fun z => by
      have := (h.ix' hi).2
      rw [z, e] at this
      exact q (Option.some.inj this).symm
    congr 1
    exact decide_eq_decide.mpr (by omega)
theorem Turn.seenV_get {ls : List Nat} (h : Turn ls) {k g : Nat} (e : ls[k]? = some g) : (seenV ls k)[g]? = some (V.bl false) := by
  unfold seenV
  rw [gV_get (h.lt (List.mem_of_getElem? e)), h.ix e, decide_eq_false (Nat.lt_irrefl _)]
theorem oppV_0 (ls : List Nat) : oppV ls 0 = List.replicate ls.length (V.int 0) := by rw [gV_rep]; exact gV_ext fun i _ => if_neg (Nat.not_lt_zero _)
theorem seenV_0 (ls : List Nat) : seenV ls 0 = List.replicate ls.length (V.bl false) := by rw [gV_rep]; exact gV_ext fun i _ => by rw [decide_eq_false (Nat.not_lt_zero _)]
theorem Turn.oppV_end {ls : List Nat} (h : Turn ls) : oppV ls ls.length = natV (Pk.opp ls) := by
  unfold oppV gV natV Pk.opp
  rw [List.map_map]
  refine List.map_congr_left fun g hg => ?_
  rw [if_pos (h.ix' (List.mem_range.mp hg)).1]
  rfl
/-! ### lines over a board -/
def cel (m : List Nat × Nat) (ne : Bool) (k : Nat) : List Nat × Nat := if (ne && decide (m.2 < m.1.getD k 0)) = true then m else (m.1.set k m.2, m.1.getD k 0)
def rowL (b : List Nat) (x : Nat) (ds : List Nat) (a : Nat) : Nat → List Nat × Nat
  | 0 => (ds, a)
  | k + 1 => cel (rowL b x ds a k) (decide (x ≠ b.getD k 0)) k
def brd (a b : List Nat) : Nat → List Nat × List Nat
  | 0 => (List.range' a.length b.length, [])
  | r + 1 => ((rowL b (a.getD r 0) (brd a b r).1 (a.length - 1 - r) b.length).1, (brd a b r).2 ++ [(rowL b (a.getD r 0) (brd a b r).1 (a.length - 1 - r) b.length).2])
def fin (a b : List Nat) : List Nat := (brd a b a.length).1 ++ (brd a b a.length).2.reverse
theorem cel_len (m : List Nat × Nat) (ne : Bool) (k : Nat) : (cel m ne k).1.length = m.1.length := by
  unfold cel
  split
  · rfl
  · simp
theorem rowL_len (b : List Nat) (x : Nat) (ds : List Nat) (a k : Nat) : (rowL b x ds a k).1.length = ds.length := by
  induction k with
  | zero => rfl
  | succ k ih => exact (cel_len _ _ _).trans ih
theorem brd_len (a b : List Nat) (r : Nat) : (brd a b r).1.length = b.length ∧ (brd a b r).2.length = r := by
  induction r with
  | zero => exact ⟨by simp [brd], rfl⟩
  | succ r ih =>
    refine ⟨(rowL_len _ _ _ _ _).trans ih.1, ?_⟩
    show ((brd a b r).2 ++ [_]).length = _
    rw [List.length_append, ih.2]
    rfl
theorem fin_len (a b : List Nat) : (fin a b).length = a.length + b.length := by
  unfold fin
  rw [List.length_append, List.length_reverse, (brd_len a b _).1, (brd_len a b _).2]
  omega
theorem set_perm {l : List Nat} {k a : Nat} (h : k < l.length) : (l.getD k 0 :: l.set k a).Perm (a :: l) := by
  have e : l.getD k 0 = l[k] := by rw [List.getD_eq_getElem?_getD, List.getElem?_eq_getElem h]; rfl
  rw [e]
  induction l generalizing k with
  | nil => simp at h
  | cons y l ih =>
    cases k with
    | zero => exact List.Perm.swap _ _ _
    | succ k =>
      have h' : k < l.length := by simpa using h
      have := ih (k := k) h' (by rw [List.getD_eq_getElem?_getD, List.getElem?_eq_getElem h']; rfl)
      show (l[k] :: y :: l.set k a).Perm (a :: y :: l)
      exact (List.Perm.swap _ _ _).trans ((this.cons y).trans (List.Perm.swap _ _ _))
theorem cel_perm {m : List Nat × Nat} {ne : Bool} {k : Nat} (h : k < m.1.length) : ((cel m ne k).2 :: (cel m ne k).1).Perm (m.2 :: m.1) := by
  unfold cel
  split
  · exact List.Perm.refl _
  · exact set_perm h
theorem rowL_perm (b : List Nat) (x : Nat) (ds : List Nat) (a k : Nat) (h : k ≤ ds.length) : ((rowL b x ds a k).2 :: (rowL b x ds a k).1).Perm (a :: ds) := by
  induction k with
  | zero => exact List.Perm.refl _
  | succ k ih => exact (cel_perm (by rw [rowL_len]; omega)).trans (ih (by omega))
theorem brd_perm (a b : List Nat) (r : Nat) (h : r ≤ a.length) : ((brd a b r).1 ++ (brd a b r).2).Perm (List.range' a.length b.length ++ (List.range r).map fun i => a.length - 1 - i) := by
  induction r with
  | zero => exact List.Perm.refl _
  | succ r ih =>
    have h1 := rowL_perm b (a.getD r 0) (brd a b r).1 (a.length - 1 - r) b.length (by rw [(brd_len a b r).1]; exact Nat.le_refl _)
    rw [List.range_succ, List.map_append]
    show ((rowL b (a.getD r 0) (brd a b r).1 (a.length - 1 - r) b.length).1 ++ ((brd a b r).2 ++ [(rowL b (a.getD r 0) (brd a b r).1 (a.length - 1 - r) b.length).2])).Perm _
    generalize rowL b (a.getD r 0) (brd a b r).1 (a.length - 1 - r) b.length = s at h1
    rw [← List.append_assoc, ← List.append_assoc]
    refine (List.perm_append_comm).trans (List.Perm.trans ?_ (List.perm_append_comm))
    show (s.2 :: (s.1 ++ (brd a b r).2)).Perm ((a.length - 1 - r) :: _)
    have h2 : (s.2 :: (s.1 ++ (brd a b r).2)).Perm ((a.length - 1 - r) :: ((brd a b r).1 ++ (brd a b r).2)) := h1.append_right (brd a b r).2
    exact h2.trans ((ih (by omega)).cons _)
theorem fin_perm (a b : List Nat) : (fin a b).Perm (List.range (a.length + b.length)) := by
  unfold fin
  have h := brd_perm a b a.length (Nat.le_refl _)
  have h2 : ((List.range a.length).map fun i => a.length - 1 - i).Perm (List.range a.length) := by
    have e : (List.range a.length).reverse = (List.range a.length).map fun i => a.length - 1 - i := by
      apply List.ext_getElem?
      intro i
      by_cases hi : i < a.length
      · rw [rm_get hi, List.getElem?_reverse (by simpa using hi), List.length_range, List.getElem?_range (by omega)]
      · rw [List.getElem?_eq_none (by simpa using hi), List.getElem?_eq_none (by simpa using hi)]
    rw [← e]
    exact List.reverse_perm _
  have e3 : List.range (a.length + b.length) = List.range a.length ++ List.range' a.length b.length := by
    rw [List.range_eq_range', List.range_eq_range', ← List.range'_append]
    simp
  rw [e3]
  exact ((List.reverse_perm _).append_left _).trans (h.trans ((h2.append_left _).trans List.perm_append_comm))
theorem fin_turn {a b : List Nat} (ha : a.length ≤ 48) (hb : b.length ≤ 48) : Turn (fin a b) := ⟨by rw [fin_len]; omega, by rw [fin_len]; exact fin_perm a b⟩
/-- 1 for a line from the left -/
def flg (m x : Nat) : Nat := if x < m then 1 else 0
theorem getD_set (l : List Nat) (k a j : Nat) (h : k < l.length) : (l.set k a).getD j 0 = if j = k then a else l.getD j 0 := by
  rw [List.getD_eq_getElem?_getD, List.getElem?_set]
  by_cases e : j = k
  · rw [if_pos e, if_pos e.symm, if_pos h]; rfl
  · rw [if_neg e, if_neg (fun z => e z.symm), List.getD_eq_getElem?_getD]
theorem rowL_flg (a b : List Nat) (r : Nat) (hr : r < a.length) (ds : List Nat) (hd : ds.length = b.length) (h : ∀ j, j < b.length → flg a.length (ds.getD j 0) + lc a b r j = lc a b r (j + 1)) (k : Nat) (hk : k ≤ b.length) :
    (∀ j, j < k → flg a.length ((rowL b (a.getD r 0) ds (a.length - 1 - r) k).1.getD j 0) + lc a b (r + 1) j = lc a b (r + 1) (j + 1)) ∧
    (∀ j, k ≤ j → (rowL b (a.getD r 0) ds (a.length - 1 - r) k).1.getD j 0 = ds.getD j 0) ∧
    flg a.length (rowL b (a.getD r 0) ds (a.length - 1 - r) k).2 + lc a b (r + 1) k = lc a b r k + 1 := by
  induction k with
  | zero =>
    refine ⟨fun j hj => absurd hj (Nat.not_lt_zero _), fun j _ => rfl, ?_⟩
    show flg a.length (a.length - 1 - r) + _ = _
    rw [lc_s0, lc_s0]
    unfold flg
    rw [if_pos (by omega)]
  | succ k ih =>
    obtain ⟨h1, h2, h3⟩ := ih (by omega)
    have hl := rowL_len b (a.getD r 0) ds (a.length - 1 - r) k
    have hd2 := h k (by omega)
    have hg := h2 k (Nat.le_refl _)
    show (∀ j, j < k + 1 → flg a.length ((cel (rowL b (a.getD r 0) ds (a.length - 1 - r) k) (decide (a.getD r 0 ≠ b.getD k 0)) k).1.getD j 0) + lc a b (r + 1) j = lc a b (r + 1) (j + 1)) ∧
      (∀ j, k + 1 ≤ j → (cel (rowL b (a.getD r 0) ds (a.length - 1 - r) k) (decide (a.getD r 0 ≠ b.getD k 0)) k).1.getD j 0 = ds.getD j 0) ∧
      flg a.length (cel (rowL b (a.getD r 0) ds (a.length - 1 - r) k) (decide (a.getD r 0 ≠ b.getD k 0)) k).2 + lc a b (r + 1) (k + 1) = lc a b r (k + 1) + 1
    generalize rowL b (a.getD r 0) ds (a.length - 1 - r) k = s at h1 h2 h3 hl hg
    rw [← hg] at hd2
    have xa : a[r]? = some (a.getD r 0) := by rw [List.getD_eq_getElem?_getD, List.getElem?_eq_getElem hr]; rfl
    have xb : b[k]? = some (b.getD k 0) := by rw [List.getD_eq_getElem?_getD, List.getElem?_eq_getElem (show k < b.length by omega)]; rfl
    have e1 := lc_ss a b r k
    rw [xa, xb] at e1
    have hks : k < s.1.length := by omega
    unfold cel
    by_cases c : (decide (a.getD r 0 ≠ b.getD k 0) && decide (s.2 < s.1.getD k 0)) = true
    · rw [if_pos c]
      have c1 : a.getD r 0 ≠ b.getD k 0 ∧ s.2 < s.1.getD k 0 := by simpa using c
      rw [if_neg (fun z => c1.1 (Option.some.inj z))] at e1
      have c2 := c1.2
      unfold flg at h3 hd2 ⊢
      refine ⟨fun j hj => ?_, fun j hj => h2 j (by omega), ?_⟩
      · by_cases q : j = k
        · subst q
          split at h3 <;> split at hd2 <;> (try split) <;> omega
        · have := h1 j (by omega); unfold flg at this; exact this
      · split at h3 <;> split at hd2 <;> (try split) <;> omega
    · rw [if_neg c]
      have key : flg a.length s.2 + lc a b (r + 1) k = lc a b (r + 1) (k + 1) ∧ flg a.length (s.1.getD k 0) + lc a b (r + 1) (k + 1) = lc a b r (k + 1) + 1 := by
        by_cases q : a.getD r 0 = b.getD k 0
        · rw [if_pos (by rw [q])] at e1
          omega
        · rw [if_neg (fun z => q (Option.some.inj z))] at e1
          have c1 : ¬ s.2 < s.1.getD k 0 := by
            intro z
            apply c
            rw [decide_eq_true q, decide_eq_true z]
            rfl
          unfold flg at h3 hd2 ⊢
          split at h3 <;> split at hd2 <;> (constructor <;> (try split) <;> omega)
      refine ⟨fun j hj => ?_, fun j hj => ?_, key.2⟩
      · show flg a.length ((s.1.set k s.2).getD j 0) + _ = _
        rw [getD_set _ _ _ _ hks]
        by_cases q : j = k
        · rw [if_pos q, q]; exact key.1
        · rw [if_neg q]; exact h1 j (by omega)
      · show (s.1.set k s.2).getD j 0 = _
        rw [getD_set _ _ _ _ hks, if_neg (by omega)]
        exact h2 j (by omega)
theorem brd_flg (a b : List Nat) (r : Nat) (hr : r ≤ a.length) : ∀ j, j < b.length → flg a.length ((brd a b r).1.getD j 0) + lc a b r j = lc a b r (j + 1) := by
  induction r with
  | zero =>
    intro j hj
    rw [lc_0, lc_0]
    show flg a.length ((List.range' a.length b.length).getD j 0) + 0 = 0
    rw [List.getD_eq_getElem?_getD, List.getElem?_range' hj]
    unfold flg
    show (if a.length + 1 * j < a.length then 1 else 0) + 0 = 0
    rw [if_neg (by omega)]
  | succ r ih =>
    exact (rowL_flg a b r (by omega) (brd a b r).1 (brd_len a b r).1 (ih (by omega)) b.length (Nat.le_refl _)).1
/-- how many of the first ends are of lines from the left -/
theorem fin_count (a b : List Nat) (k : Nat) (hk : k ≤ b.length) : ((fin a b).take k).countP (fun x => decide (x < a.length)) = lc a b a.length k := by
  induction k with
  | zero => rw [lc_s0]; rfl
  | succ k ih =>
    have hl := (brd_len a b a.length).1
    have hg : (fin a b)[k]? = some ((brd a b a.length).1.getD k 0) := by
      unfold fin
      rw [List.getElem?_append_left (by omega), List.getD_eq_getElem?_getD, List.getElem?_eq_getElem (by omega)]
      rfl
    have h1 := brd_flg a b a.length (Nat.le_refl _) k (by omega)
    rw [List.take_succ, hg, List.countP_append, ih (by omega), ← h1]
    unfold flg
    by_cases q : (brd a b a.length).1.getD k 0 < a.length
    · simp [q]; omega
    · simp [q]; split <;> omega
end Pk
namespace Pk
open PySem PySem.Spec
open PyProof.Rows L2
section
variable {K : PySem.W.Frag} {σ : L2.St} {H : Hp} {te : TE} {tr : TA} {vs : List V} {Q : VK} {E : XK} {C : Addr} {sp : Sp} {v : V}
theorem c_callM (h : tr σ H fun vs H1 => sp vs H1 Q E) : tCall sp [] E tr σ H Q := by
  show tr σ H fun vs H1 => sp (vs ++ []) H1 Q E
  have e : (fun (vs : List V) H1 => sp (vs ++ []) H1 Q E) = fun vs H1 => sp vs H1 Q E := by funext vs H1; rw [List.append_nil]
  rw [e]
  exact h
theorem cons_C {R : List V → Hp → Prop} (h : te σ H fun v H1 => tr σ H1 fun vs H2 => R (v :: vs) H2) : tCons te tr σ H R := h
theorem cons_V {R : List V → Hp → Prop} (h : Val te σ H v) (k : tr σ H fun vs H2 => R (v :: vs) H2) : tCons te tr σ H R := h _ k
theorem c_make (ha : ValA tr σ H vs) (k : ∀ x dx, H x = none → H dx = none → dx ≠ x → sp (.ref x :: vs) (upd (upd H dx (.own x)) x (.ins C dx [])) (fun v H2 => v = .non ∧ Q (.ref x) H2) E) : tMake C sp [] E tr σ H Q := ha _ fun x dx h1 h2 h3 => by
  rw [List.append_nil]
  exact k x dx h1 h2 h3
theorem c_methC {a dx : Addr} {m : Str} {fs : List (Str × V)} (ho : Val te σ H (.ref a)) (hh : H a = some (.ins C dx fs)) (hm : fs.lookup m = none) (h : tr σ H fun vs H2 => sp (.ref a :: vs) H2 Q E) : tMeth C m sp [] E te tr σ H Q := by
  refine ho _ ⟨a, dx, fs, rfl, hh, hm, ?_⟩
  have e : (fun (vs : List V) H1 => sp (.ref a :: (vs ++ [])) H1 Q E) = fun vs H1 => sp (.ref a :: vs) H1 Q E := by funext vs H1; rw [List.append_nil]
  rw [e]
  exact h
theorem op_C {r : R2} {ta tb : TE} (h : ta σ H fun x H1 => tb σ H1 fun y H2 => r x y H2 Q) : tOp r ta tb σ H Q := h
theorem lst_C (h : tr σ H fun vs H1 => vs.length ≤ sizeLine ∧ ∀ p, H1 p = none → Q (.ref p) (upd H1 p (.lst vs))) : tLst tr σ H Q := h
theorem bm_C {r : V → List V → Hp → VK → Prop} {l : Addr} {xs : List V} (ho : Val te σ H (.ref l)) (hl : H l = some (.lst xs)) (h : tr σ H fun vs H1 => r (.ref l) vs H1 Q) : tBM K "list" r te tr σ H Q := ho _ ⟨.inl ⟨rfl, _, SqL.of hl⟩, h⟩
theorem fld_C {tv ta : TE} {f : Str} {D : Ends} (h : tv σ H fun y H1 => ta σ H1 fun x H2 => ∃ a C dx fs, x = .ref a ∧ H2 a = some (.ins C dx fs) ∧ Cls K C ∧ NoAttr K C f ∧ fs.length < 1000 ∧ D.nx σ (upd H2 a (.ins C dx (putF f y fs)))) : sFld K ta tv f D σ H := h
end
abbrev Fs := List (Str × V)
theorem lk_eq (f : Str) (v : V) (fs : Fs) : (putF f v fs).lookup f = some v := by rw [lookup_putF, if_pos rfl]
theorem lk_ne {f g : Str} {v r : V} {fs : Fs} (h : decide (g = f) = false) (k : fs.lookup g = some r) : (putF f v fs).lookup g = some r := by rw [lookup_putF, if_neg (of_decide_eq_false h)]; exact k
theorem lk_no {f g : Str} {v : V} {fs : Fs} (h : decide (g = f) = false) (k : fs.lookup g = none) : (putF f v fs).lookup g = none := by rw [lookup_putF, if_neg (of_decide_eq_false h)]; exact k
theorem lk_nil (g : Str) : ([] : Fs).lookup g = none := rfl
/-! ### the fields of the objects -/
def tyF (n v : V) : Fs := putF "floors" v (putF "many" n [])
theorem ty_many (n v : V) : (tyF n v).lookup ("many" : Str) = some n := lk_ne (by decide +kernel) (lk_eq _ _ _)
theorem ty_floors (n v : V) : (tyF n v).lookup ("floors" : Str) = some v := lk_eq _ _ _
theorem ty_from (n v : V) : (tyF n v).lookup ("from_on" : Str) = none := lk_no (by decide +kernel) (lk_no (by decide +kernel) rfl)
theorem ty_below (n v : V) : (tyF n v).lookup ("below" : Str) = none := lk_no (by decide +kernel) (lk_no (by decide +kernel) rfl)
def asF (m w t g s : V) : Fs := putF "starts" s (putF "goals" g (putF "tally" t (putF "wide" w (putF "tall" m []))))
theorem as_tall (m w t g s : V) : (asF m w t g s).lookup ("tall" : Str) = some m := lk_ne (by decide +kernel) (lk_ne (by decide +kernel) (lk_ne (by decide +kernel) (lk_ne (by decide +kernel) (lk_eq _ _ _))))
theorem as_wide (m w t g s : V) : (asF m w t g s).lookup ("wide" : Str) = some w := lk_ne (by decide +kernel) (lk_ne (by decide +kernel) (lk_ne (by decide +kernel) (lk_eq _ _ _)))
theorem as_tally (m w t g s : V) : (asF m w t g s).lookup ("tally" : Str) = some t := lk_ne (by decide +kernel) (lk_ne (by decide +kernel) (lk_eq _ _ _))
theorem as_starts (m w t g s : V) : (asF m w t g s).lookup ("starts" : Str) = some s := lk_eq _ _ _
theorem as_no {x : Str} (m w t g s : V) (h : decide (x = "starts") = false ∧ decide (x = "goals") = false ∧ decide (x = "tally") = false ∧ decide (x = "wide") = false ∧ decide (x = "tall") = false) : (asF m w t g s).lookup x = none :=
  lk_no h.1 (lk_no h.2.1 (lk_no h.2.2.1 (lk_no h.2.2.2.1 (lk_no h.2.2.2.2 rfl))))
theorem as_window (m w t g s : V) : (asF m w t g s).lookup ("window" : Str) = none := as_no _ _ _ _ _ (by decide +kernel)
theorem as_stretch (m w t g s : V) : (asF m w t g s).lookup ("stretch" : Str) = none := as_no _ _ _ _ _ (by decide +kernel)
theorem as_gains (m w t g s : V) : (asF m w t g s).lookup ("gains" : Str) = none := as_no _ _ _ _ _ (by decide +kernel)
theorem as_table (m w t g s : V) : (asF m w t g s).lookup ("table" : Str) = none := as_no _ _ _ _ _ (by decide +kernel)
def coF (s t w c : V) : Fs := putF "costs" c (putF "wide" w (putF "goal_row" t (putF "turned_row" s [])))
theorem co_wide (s t w c : V) : (coF s t w c).lookup ("wide" : Str) = some w := lk_ne (by decide +kernel) (lk_eq _ _ _)
theorem co_costs (s t w c : V) : (coF s t w c).lookup ("costs" : Str) = some c := lk_eq _ _ _
theorem co_of (s t w c : V) : (coF s t w c).lookup ("of" : Str) = none := lk_no (by decide +kernel) (lk_no (by decide +kernel) (lk_no (by decide +kernel) (lk_no (by decide +kernel) rfl)))
def boF (s t m g p : V) : Fs := putF "goals" p (putF "signs" g (putF "meetings" m (putF "upper_row" t (putF "left_row" s []))))
theorem bo_goals (s t m g p : V) : (boF s t m g p).lookup ("goals" : Str) = some p := lk_eq _ _ _
theorem bo_lines (s t m g p : V) : (boF s t m g p).lookup ("lines" : Str) = none := lk_no (by decide +kernel) (lk_no (by decide +kernel) (lk_no (by decide +kernel) (lk_no (by decide +kernel) (lk_no (by decide +kernel) rfl))))
/-! ### objects that stand still -/
def GoodF (fs : List (List (List Int))) : Prop := ∀ f ∈ fs, f.length ≤ 1000 ∧ ∀ b ∈ f, b.length ≤ 1000 ∧ ∀ z ∈ b, (0 : Int) ≤ z
def ObT (K : PySem.W.Frag) (S : Hp) (q : Addr) (n : Int) : Prop := ∃ dx v fs, S q = some (.ins (He.ga K "Tally") dx (tyF (.int n) v)) ∧ At S v (eIL3 fs) ∧ GoodF fs
theorem ObT.mono {K : PySem.W.Frag} {S S' : Hp} {q : Addr} {n : Int} (h : ObT K S q n) (e : Ex S S') : ObT K S' q n := by
  obtain ⟨dx, v, fs, h1, h2, h3⟩ := h
  exact ⟨dx, v, fs, e _ _ h1, h2.mono e, h3⟩
/-- m of the side, w of the top, st: where the lines of each end begin -/
def ObA (K : PySem.W.Frag) (S : Hp) (q : Addr) (m w : Nat) (st : List Nat) : Prop := ∃ dx t g s, S q = some (.ins (He.ga K "Asks") dx (asF (.int (m : Nat)) (.int (w : Nat)) (.ref t) g s)) ∧ ObT K S t ((m + w : Nat) : Int) ∧ At S s (eIL (natI st)) ∧ st.length = m + w ∧ m + w ≤ 96
theorem ObA.mono {K : PySem.W.Frag} {S S' : Hp} {q : Addr} {m w : Nat} {st : List Nat} (h : ObA K S q m w st) (e : Ex S S') : ObA K S' q m w st := by
  obtain ⟨dx, t, g, s, h1, h2, h3, h4⟩ := h
  exact ⟨dx, t, g, s, e _ _ h1, h2.mono e, h3.mono e, h4⟩
/-- the costs of whole rows -/
def ObC (K : PySem.W.Frag) (S : Hp) (q : Addr) (n : Nat) (c : Int) : Prop := ∃ dx s t v rows, S q = some (.ins (He.ga K "Costs") dx (coF s t (.int (n : Nat)) v)) ∧ At S v (eILL rows) ∧ ∃ row, rows[0]? = some row ∧ row[n]? = some c
/-- what gains are -/
def gns (st : List Nat) (m w b : Nat) : List Nat := (List.range' b (w - b)).filter fun at_ => decide (st.getD at_ 0 < m + b)
theorem gns_mem {st : List Nat} {m w b x : Nat} : x ∈ gns st m w b ↔ (b ≤ x ∧ x < w ∧ st.getD x 0 < m + b) := by
  unfold gns
  rw [List.mem_filter, List.mem_range'_1, decide_eq_true_eq]
  omega
theorem inV_nat (x : Nat) (l : List Nat) : inV (.int (x : Nat)) (natV l) = decide (x ∈ l) := by
  unfold inV natV
  rw [List.any_map]
  induction l with
  | nil => rfl
  | cons y r ih =>
    rw [List.any_cons, ih]
    show (eqV (.int (y : Nat)) (.int (x : Nat)) || _) = _
    have e : eqV (.int (y : Nat)) (.int (x : Nat)) = decide (x = y) := by
      show (((y : Nat) : Int) == ((x : Nat) : Int)) = _
      by_cases q : x = y
      · rw [q]; simp
      · rw [decide_eq_false q]; simp; omega
    rw [e]
    by_cases q : x = y <;> simp [q]
theorem natV_flat (l : List Nat) : (natV l).all flatV = true := by
  unfold natV
  rw [List.all_map]
  simp [flatV]
theorem countP_step {l : List Nat} (h : l.Nodup) (k : Nat) : l.countP (fun x => decide (x < k + 1)) = l.countP (fun x => decide (x < k)) + if k ∈ l then 1 else 0 := by
  induction l with
  | nil => rfl
  | cons x r ih =>
    obtain ⟨h1, h2⟩ := List.nodup_cons.mp h
    have ih := ih h2
    rw [List.countP_cons, List.countP_cons, ih]
    by_cases e : k = x
    · subst e
      simp [h1]
    · have e3 : (if k ∈ x :: r then 1 else 0) = (if k ∈ r then 1 else 0) := by
        by_cases z : k ∈ r
        · rw [if_pos z, if_pos (List.mem_cons_of_mem _ z)]
        · rw [if_neg z, if_neg (by simp [e, z])]
      rw [e3]
      by_cases q : x < k
      · simp [q, Nat.lt_succ_of_lt q]; omega
      · have q2 : ¬ x < k + 1 := by omega
        simp [q, q2]
theorem gns_count (st : List Nat) (m w j : Nat) (hj : j ≤ w) (hw : w ≤ st.length) : (gns st m w 0).countP (fun x => decide (x < 0 + j)) = (st.take j).countP (fun x => decide (x < m)) := by
  rw [Nat.zero_add]
  induction j with
  | zero =>
    rw [List.take_zero]
    exact List.countP_eq_zero.mpr fun x _ => by simp
  | succ j ih =>
    have nd : (gns st m w 0).Nodup := by
      unfold gns
      exact List.Pairwise.filter _ List.nodup_range'
    have hg : st[j]? = some (st.getD j 0) := by rw [List.getD_eq_getElem?_getD, List.getElem?_eq_getElem (by omega)]; rfl
    rw [countP_step nd, ih (by omega), List.take_succ, hg, List.countP_append]
    refine congrArg _ ?_
    by_cases q : st.getD j 0 < m
    · rw [if_pos (gns_mem.mpr ⟨by omega, by omega, by omega⟩)]
      show 1 = List.countP _ [st.getD j 0]
      rw [List.countP_cons_of_pos (by simpa using q)]
      rfl
    · rw [if_neg (fun z => by have := gns_mem.mp z; omega)]
      show 0 = List.countP _ [st.getD j 0]
      rw [List.countP_cons_of_neg (by simpa using q)]
      rfl
end Pk
namespace Pk
open PySem PySem.Spec
open PyProof.Rows L2
open LamX NdefX
/-! ### a lambda with parameters and captured names: it is known as an object, handed to a def, called there -/
def LmO (f : Addr) (F : NF) (body : Expr) : HO := .ext fun h => ∃ (od : Option Addr) (sl : Array (Option Value)) (pm ctv : Value), h.get? f = some (⟨.type "function", od, .func (PySem.W.kla_fn F.name F.qual F.params body F.scope F.cl pm (.ref F.c) ctv), sl⟩ : Obj)
theorem lmO_at {P : Program} {w : World} {H : Hp} {h : Heap} {f : Addr} {F : NF} {body : Expr} (hok : HOk P w H h) (e : H f = some (LmO f F body)) :
    ∃ (od : Option Addr) (sl : Array (Option Value)) (pm ctv : Value), h.get? f = some (⟨.type "function", od, .func (PySem.W.kla_fn F.name F.qual F.params body F.scope F.cl pm (.ref F.c) ctv), sl⟩ : Obj) := (hok f _ e).1
section
variable {X : Cx} {pins : List (Addr × Obj)} {σ : L2.St} {H : Hp} {s : Shared}
theorem inv_lmO {F : NF} {body : Expr} {tk : Nat} {pm ctv : Value} (I : Inv X pins σ H s) :
    Inv X pins σ (upd H s.heap.objs.size (LmO s.heap.objs.size F body)) { s with heap := s.heap.push (PySem.W.kla_obj F.name F.qual F.params body F.scope F.cl pm F.c ctv), toks := tk } := by
  refine I.laid (a := s.heap.objs.size) (fun x y z => Heap.get?_push_of_some _ z) (Nat.le_refl _) ?_
  have q : (s.heap.push (PySem.W.kla_obj F.name F.qual F.params body F.scope F.cl pm F.c ctv)).get? s.heap.objs.size = some (PySem.W.kla_obj F.name F.qual F.params body F.scope F.cl pm F.c ctv) := Heap.get?_push_size _ rfl
  exact ⟨⟨_, _, pm, ctv, q⟩, ⟨_, q⟩, fun x y ⟨a, b, c, d, z⟩ st => ⟨a, b, c, d, st _ z⟩⟩
/-- what is known behind its making -/
structure LmMade (H H1 : Hp) (P : Addr) (F : NF) (body : Expr) (f : Addr) : Prop where
  ext : ExtN H H1
  grow : ∀ b, H1 b = none → H b = none
  tab : TabS H1 P F.qual
  new : H f = none
  fn : H1 f = some (LmO f F body)
  code : H1 F.c = some (CodeO F.c F.qual)
theorem lam_mk {c P : Addr} {params : Arguments} {body : Expr} {scope : Scope} {pos : Pos} {E : Value → Shared → Prop} {Q : Value → Shared → Prop} (I : Inv X pins σ H s) (TB : TabB X.base X.mg c P) (hcode : X.env.code = .ref c)
    (hT : TabS H P (X.env.qual ++ "<lambda>")) (hdef : defaultsOf params X.env = ([], [])) (hfree : ∀ y ∈ scope.names, y.2 = .free → ∃ c, X.env.cells.lookup y.1 = some c)
    (h : ∀ (f c' : Addr) (H1 : Hp) (s' : Shared), Inv X pins σ H1 s' → LmMade H H1 P ⟨"<lambda>", X.env.qual ++ "<lambda>", params, [], scope, cloFrom X.env.cells scope.names [], c'⟩ body f → Q (.ref f) s') :
    wpAny (model X.prog X.w) X.A (eval (.Lambda params body scope pos) X.env) Q E s := by
  have hT' := hT
  obtain ⟨tb, atP, htr, hal⟩ := hT'
  have inB : s.heap.BuiltinsAt X.mg P := TB.bm.keeps I.bk
  have inP : s.heap.get? P = some { cls := .none, data := .fields tb } := I.hok P _ atP
  refine PySem.W.kla_eval hdef ?_
  cases hc : codeAmong pos tb.toList with
  | some cv =>
    obtain ⟨c', e, hco⟩ := hal pos cv hc
    subst e
    refine PySem.W.kla_makeFunctionHit (mg := X.mg) (c := c) (P := P) (ps := tb) (closure_ok hfree) I.ok.glob (I.mod.glob.keeps I.bk) hcode (TB.code.keeps I.bk) inP htr hc inB fun ctv h' tk hx hsz => ?_
    have J : Inv X pins σ H { s with heap := h', toks := tk } := I.kept hx
    have nF : H h'.objs.size = none := J.hok.fresh (Nat.le_refl _)
    have up : ∀ b o, H b = some o → upd H h'.objs.size (LmO h'.objs.size ⟨"<lambda>", X.env.qual ++ "<lambda>", params, [], scope, cloFrom X.env.cells scope.names [], c'⟩ body) b = some o := fun b o z => by rw [upd_ne (ne_of_none z nF)]; exact z
    exact h _ c' _ _ (inv_lmO (F := ⟨"<lambda>", X.env.qual ++ "<lambda>", params, [], scope, cloFrom X.env.cells scope.names [], c'⟩) (body := body) (tk := tk) (ctv := ctv) (pm := (X.mg "__name__").getD .none) J) ⟨ExtN.of up, fun b z => upd_none z, hT.ext up, nF, upd_same, up _ _ hco⟩
  | none =>
    refine PySem.W.kla_makeFunction (mg := X.mg) (c := c) (P := P) (ps := tb) (closure_ok hfree) I.ok.glob (I.mod.glob.keeps I.bk) hcode (TB.code.keeps I.bk) inP htr hc TB.gP inB fun c' ctv h' tk hx hge hlt hrec htb => ?_
    obtain ⟨c2, oc, vs, t, e2, hoc, hd, hv⟩ := hrec
    cases e2
    have nC : H c' = none := I.hok.fresh hge
    have PC : P ≠ c' := ne_of_none atP nC
    have J := inv_table (t' := tk) (q := X.env.qual ++ "<lambda>") (more := #[rawInt pos.line, rawInt pos.col, .ref c']) (h' := h') I atP hx htb hge ⟨oc, vs, t, hoc, hd, hv⟩
    have nF := J.hok.fresh (Nat.le_refl _)
    have eN : ExtN H (upd (upd H P (.tbl (tb ++ #[rawInt pos.line, rawInt pos.col, .ref c']))) c' (CodeO c' (X.env.qual ++ "<lambda>"))) := fun b o z n => by
      have b1 : b ≠ P := fun y => n tb (by rw [y, atP] at z; exact (Option.some.inj z).symm)
      rw [upd_ne (ne_of_none z nC), upd_ne b1]
      exact z
    have T1 : TabS (upd (upd H P (.tbl (tb ++ #[rawInt pos.line, rawInt pos.col, .ref c']))) c' (CodeO c' (X.env.qual ++ "<lambda>"))) P (X.env.qual ++ "<lambda>") := by
      have eL : (tb ++ #[rawInt pos.line, rawInt pos.col, .ref c']).toList = tb.toList ++ [rawInt pos.line, rawInt pos.col, .ref c'] := by simp
      refine ⟨_, by rw [upd_ne PC, upd_same], by rw [eL]; exact PySem.TriplesOk_snoc _ _ _ _ htr, fun p' cv z => ?_⟩
      rw [eL] at z
      rcases among_app _ htr z with y | y
      · obtain ⟨d, d1, d2⟩ := hal p' cv y
        exact ⟨d, d1, eN _ _ d2 codeO_ne⟩
      · exact ⟨c', y, upd_same⟩
    have J2 := inv_lmO (F := ⟨"<lambda>", X.env.qual ++ "<lambda>", params, [], scope, cloFrom X.env.cells scope.names [], c'⟩) (body := body) (tk := tk) (ctv := ctv) (pm := (X.mg "__name__").getD .none) J
    have gr : ∀ b, upd (upd H P (.tbl (tb ++ #[rawInt pos.line, rawInt pos.col, .ref c']))) c' (CodeO c' (X.env.qual ++ "<lambda>")) b = none → H b = none := fun b z => upd_none (upd_none z)
    have co : upd (upd H P (.tbl (tb ++ #[rawInt pos.line, rawInt pos.col, .ref c']))) c' (CodeO c' (X.env.qual ++ "<lambda>")) c' = some (CodeO c' (X.env.qual ++ "<lambda>")) := upd_same
    generalize upd (upd H P (.tbl (tb ++ #[rawInt pos.line, rawInt pos.col, .ref c']))) c' (CodeO c' (X.env.qual ++ "<lambda>")) = H2 at eN T1 nF J2 gr co
    have nF : H2 h'.objs.size = none := nF
    have up : ∀ b o, H2 b = some o → upd H2 h'.objs.size (LmO h'.objs.size ⟨"<lambda>", X.env.qual ++ "<lambda>", params, [], scope, cloFrom X.env.cells scope.names [], c'⟩ body) b = some o := fun b o z => by rw [upd_ne (ne_of_none z nF)]; exact z
    exact h _ c' _ _ J2 ⟨fun b o z n => up b o (eN b o z n), fun b z => gr b (upd_none z), T1.ext up, gr _ nF, upd_same, up _ _ co⟩
/-- the lambda as a value -/
def tLam3 (P : Addr) (mk : Addr → NF) (body : Expr) : TE := fun _ H Q => (∃ c, TabS H P (mk c).qual) ∧ ∀ (f c' : Addr) (H1 : Hp), LmMade H H1 P (mk c') body f → Q (.ref f) H1
theorem pe_lam3 {c P : Addr} {params : Arguments} {body : Expr} {scope : Scope} {pos : Pos} (TB : TabB X.base X.mg c P) (hcode : X.env.code = .ref c) (hdef : defaultsOf params X.env = ([], []))
    (hfree : ∀ y ∈ scope.names, y.2 = .free → X.env.scope.names.lookup y.1 = some .cell ∨ X.env.scope.names.lookup y.1 = some .free) :
    PE X (.Lambda params body scope pos) (tLam3 P (fun c' => ⟨"<lambda>", X.env.qual ++ "<lambda>", params, [], scope, cloFrom X.env.cells scope.names [], c'⟩) body) := by
  refine ⟨fun pins s σ H Q I h => ?_⟩
  obtain ⟨⟨_, hT⟩, h⟩ := h
  refine lam_mk I TB hcode hT hdef (fun y hy e => (hfree y hy e).elim (fun z => I.ok.has _ (.inl z)) fun z => I.ok.has _ (.inr z)) fun f c' H1 s' J m => ⟨.ref f, H1, J, rfl, h f c' H1 m⟩
end
/-! ### what it promises -/
structure LmOk (P : Program) (w : World) (K : PySem.W.Frag) (mg : Str → Option Value) (base : Heap) (k : Nat) (f : Addr) (F : NF) (body : Expr) (ps fr : List Str) (sp : List (Option V) → Sp) : Prop where
  run : ∀ (A : Around) (outer : List Env) (s : Shared) (H : Hp) (us : List Value) (vs : List V) (ws : List (Option V)) (Q : VK) (E : XK), Room k A → Env0 P w K mg base A outer s H → H f = some (LmO f F body) → H F.c = some (CodeO F.c F.qual) →
    CellsAt F.cl fr ws s.heap H → Vals vs us → sp ws vs H Q E → codeAny (model P w) A (.call (.ref f) ⟨us, []⟩) (CR CX0 outer P w H s Q E) s
section
variable {P : Program} {w : World} {K : PySem.W.Frag} {mg : Str → Option Value} {base : Heap} {N ps fr : List Str} {F : NF} {body : Expr} {f : Addr} {k : Nat} {sp : List (Option V) → Sp}
theorem lmok_of (S : NScope N ps fr F.scope) (hb : ∀ (pm ctv : Value) (us : List Value), us.length = ps.length → bindArgs (PySem.W.kla_fn F.name F.qual F.params body F.scope F.cl pm (.ref F.c) ctv) ⟨us, []⟩ = pure (ps.zip us)) (len : ∀ ws vs H Q E, sp ws vs H Q E → vs.length = ps.length)
    (hbody : ∀ (A : Around) (outer : List Env) (s : Shared) (H : Hp) (vs : List V) (ws : List (Option V)) (Q : VK) (E : XK), Room k (A.deeper (envF F f s.heap.objs.size)) → sp ws vs H Q E → ∃ t, PE (ncx CX0 P w K mg base N F f A outer s H E) body t ∧ t (startF N vs ws) H Q) :
    LmOk P w K mg base (k + 1) f F body ps fr sp := by
  refine ⟨fun A outer s H us vs ws Q E hr e0 hf hc C r hsp => ?_⟩
  have hl := len _ _ _ _ _ hsp
  have noL : s.heap.NoLimit := e0.mod.nolimit.keeps fun b o z => (e0.bs b o z).1
  obtain ⟨od, sl, pm, ctv, ho⟩ := lmO_at e0.hok hf
  refine PySem.W.kla_callFunE hr.depth ho rfl S.co S.gen rfl (codeO_at e0.hok hc) ?_
  rw [hb pm ctv us (by rw [← r.length]; exact hl)]
  refine wpAny_pure (wpAny_newFunctionEnv S.nocell (fun ⟨n, _⟩ hy => S.par n (List.of_mem_zip hy).1) (fun h₁ hns hsb => ⟨noL.fresh _ hsb, ?_⟩) S.kind)
  show codeAny _ _ (.expr body (envF F f s.heap.objs.size)) _ _
  have kp : ∀ b o, s.heap.get? b = some o → h₁.get? b = some o := fun b o z => hsb.extBut b o (Nat.ne_of_lt (Heap.lt_size z)) (Heap.get?_push_of_some _ z)
  obtain ⟨t, ht, hq⟩ := hbody A outer s H vs ws Q E (hr.deeper _) hsp
  have J : Inv (ncx CX0 P w K mg base N F f A outer s H E) [] (startF N vs ws) H { s with heap := h₁, toks := s.toks + (ps.zip us).length } := inv_startN S hr.hd e0 hl r C hns kp
  refine PySem.W.kla_codeExpr (wpAny_mono (ht.run [] _ _ H Q J hq) (fun v s' z => ?_) fun e s' z => z)
  obtain ⟨u, H', J', rv, q⟩ := z
  exact ⟨u, H', J'.os, J'.bare, J'.base, J'.hok, rv, q⟩
end
/-! ### called in the def that got it -/
def tCallLm (f : Addr) (F : NF) (body : Expr) (i : Nat) (sp : Sp) (t : TA) : TE := fun σ H Q => σ[i]? = some (some (.ref f)) ∧ H f = some (LmO f F body) ∧ t σ H fun vs H1 => H1 f = some (LmO f F body) ∧ H1 F.c = some (CodeO F.c F.qual) ∧ sp vs H1 Q E0
section
variable {X : Cx} {pins : List (Addr × Obj)} {σ : L2.St} {H : Hp} {s : Shared} {F : NF} {body : Expr} {f : Addr} {ps fr : List Str} {sp : List (Option V) → Sp} {ws : List (Option V)} {i j k : Nat} {x : Str} {t : TA} {e : Expr} {es : List Expr} {p pos : Pos}
theorem lm_fnAt (I : Inv X pins σ H s) (z : H f = some (LmO f F body)) : PySem.W.FnAt f s.heap := by
  obtain ⟨od, sl, pm, ctv, ho⟩ := lmO_at I.hok z
  exact ⟨_, od, _, sl, ho⟩
theorem pe_callLm (Fn : LmOk X.prog X.w X.K X.mg X.base k f F body ps fr sp) (C : CellsAt F.cl fr ws X.s_0.heap X.H_0) (nf : ∀ y c, F.cl.lookup y = some c → c ∉ X.fs) (hex : X.ex = []) (hr : Room j X.A) (hk : k ≤ j) (hN : X.N[i]? = some x) (hv : Vis X.env.scope x) (ha : PA X (e :: es) t)
    (hd : (x == ("__debug__" : Str)) = false := by decide) (hcd : (x == ("__classdict__" : Str)) = false := by decide)
    (he : starEach (e :: es) X.env = (false, eval e X.env) :: starEach es X.env := by rfl) (hpl : (backTo pos (starEach es X.env)).any (·.1) = false := by rfl) :
    PE X (.Call (.Name x p) (e :: es) [] pos) (tCallLm f F body i (sp ws) t) := by
  refine ⟨fun pins s σ H Q I h => ?_⟩
  obtain ⟨hs, hf, ht⟩ := h
  refine wpAny_Call_Name_kw (thn ((pe_var (pos := p) hN hv hd hcd).run pins s σ H (fun v H1 => v = .ref f ∧ H1 = H) I ⟨.ref f, hs, rfl, rfl⟩) fun u s1 ⟨v, H1, J, rv, z⟩ => ?_)
  obtain ⟨z1, z2⟩ := z
  subst z1
  rw [z2] at J
  obtain rfl : u = Value.ref f := rv
  refine PySem.W.callWith_F (first := []) (lm_fnAt J hf) (thn (ha.run pos pins s1 σ H _ J ht) fun us s2 ⟨vs, H2, J2, r, q1, q2, q3⟩ => ⟨lm_fnAt J2 q1, ?_⟩) he hpl
  show wpAny _ _ (call (.ref f) us) _ _ _
  refine wpAny_call (codeAny_mono (Fn.run X.A X.stack s2 H2 us vs ws Q E0 (hr.mono hk) J2.env0 q1 q2 (C.later nf (fun y c _ q => by rw [hex] at q; cases q) J2) r q3) fun r s' hq => ?_)
  cases r with
  | error e => exact (show False from hq).elim
  | ok fl =>
    cases fl with
    | ret u => exact J2.after hq
    | next => exact (show False from hq).elim
    | brk => exact (show False from hq).elim
    | cont => exact (show False from hq).elim
end
/-! ### a def that gets one -/
structure GvOk (P : Program) (w : World) (K : PySem.W.Frag) (mg : Str → Option Value) (base : Heap) (k : Nat) (g : Addr) (fd : FuncData) (ps : List Str) (mk : List (Str × Addr) → Addr → NF) (body : Expr) (fr : List Str) (sp : List (Option V) → (Addr → NF) → Sp) : Prop where
  run : ∀ (A : Around) (outer : List Env) (s : Shared) (H : Hp) (args : Args) (us : List Value) (vs : List V) (ws : List (Option V)) (cl : List (Str × Addr)) (Q : VK), Room k A → Env0 P w K mg base A outer s H → BindsTo s fd args (ps.zip us) → Vals vs us →
    CellsAt cl fr ws s.heap H → (∀ y c, cl.lookup y = some c → c ∉ frs outer) → sp ws (mk cl) vs H Q E0 → codeAny (model P w) A (.call (.ref g) args) (CR CX0 outer P w H s Q E0) s
def tCallGv (sp : List (Option V) → (Addr → NF) → Sp) (mk : Addr → NF) (js : List Nat) (t : TA) : TE := fun σ H Q => t σ H fun vs H1 => sp (js.map (slotAt σ)) mk vs H1 Q E0
theorem c_gv {sp : List (Option V) → (Addr → NF) → Sp} {mk : Addr → NF} {js : List Nat} {t : TA} {σ : L2.St} {H : Hp} {Q : VK} {vs : List V} (ha : ValA t σ H vs) (h : sp (js.map (slotAt σ)) mk vs H Q E0) : tCallGv sp mk js t σ H Q := ha _ h
section
variable {X : Cx} {g : Addr} {fd : FuncData} {ps fr : List Str} {mk : List (Str × Addr) → Addr → NF} {body : Expr} {sp : List (Option V) → (Addr → NF) → Sp} {cl : List (Str × Addr)} {js : List Nat} {j k : Nat} {x : Str} {t : TA} {e : Expr} {es : List Expr} {p pos : Pos}
theorem pe_callGv (G : GvOk X.prog X.w X.K X.mg X.base k g fd ps mk body fr sp) (cp : X.Ok → Caps X cl fr js) (hfn : ∀ y, X.fn y = true) (hr : Room j X.A) (hk : k ≤ j) (hg : Gl X x) (hm : X.mg x = some (.ref g)) (hkp : PySem.W.keepIn X.K (.ref g) = true) (hb : Binds X.K fd ps []) (hlen : ∀ ws m vs H Q E, sp ws m vs H Q E → vs.length = ps.length) (ha : PA X (e :: es) t)
    (hdb : (x == ("__debug__" : Str)) = false := by decide) (he : starEach (e :: es) X.env = (false, eval e X.env) :: starEach es X.env := by rfl) (hpl : (backTo pos (starEach es X.env)).any (·.1) = false := by rfl) :
    PE X (.Call (.Name x p) (e :: es) [] pos) (tCallGv sp (mk cl) js t) := by
  refine ⟨fun pins s σ H Q I h => ?_⟩
  refine wpAny_Call_Name_kw (ld_glob I hg hm ?_ hdb)
  refine PySem.W.callWith_K (h₀ := X.base) I.ok.mod.kin hkp (thn (ha.run pos pins s σ H _ I h) fun us s1 ⟨vs, H1, J, r, q⟩ => ⟨J.kIn, ?_⟩) he hpl
  show wpAny _ _ (call (.ref g) us) _ _ _
  have cc := cp J.ok
  have hl := hlen _ _ _ _ _ _ q
  have hb' : BindsTo s1 fd ⟨us, []⟩ (ps.zip us) := by
    have z := hb s1 us J.kIn (by rw [List.append_nil, ← r.length]; exact hl)
    rw [List.append_nil] at z
    exact z
  refine wpAny_call (codeAny_mono (G.run X.A X.stack s1 H1 ⟨us, []⟩ us vs _ cl Q (hr.mono hk) J.env0 hb' r (cells_of J cc) (fun y c z q => ?_) q) fun r s' hq => ?_)
  · have z1 := cc.sub y c z
    rcases List.mem_cons.mp (J.stkSub c q) with e | e
    · exact J.cne y c z1 e
    · obtain ⟨_, o, ho, _⟩ := J.ok.funs.mem e
      exact absurd (Nat.lt_of_lt_of_le (Heap.lt_size ho) (J.ok.cab y c (hfn y) z1)) (Nat.lt_irrefl _)
  · cases r with
    | error e => exact (show False from hq).elim
    | ok fl =>
      cases fl with
      | ret u => exact J.after hq
      | next => exact (show False from hq).elim
      | brk => exact (show False from hq).elim
      | cont => exact (show False from hq).elim
end
/-- such a def by its body -/
theorem gvok_of {P : Program} {w : World} {K : PySem.W.Frag} {mg : Str → Option Value} {base : Heap} {x qual : Str} {st : Stmt} {g : Addr} {fd : FuncData} {N ps fr : List Str} {k : Nat} {mk : List (Str × Addr) → Addr → NF} {body : Expr} {sp : List (Option V) → (Addr → NF) → Sp}
    (D : FunD K x qual (defArgs st) (defBody st) (defScope st) [] [] g fd) (S : FnScope N ps (defScope st)) (hlen : ∀ ws m vs H Q E, sp ws m vs H Q E → vs.length = ps.length)
    (hbody : ∀ (cdv : Value) (A : Around) (outer : List Env) (s : Shared) (H : Hp) (vs : List V) (ws : List (Option V)) (cl : List (Str × Addr)) (Q : VK), Room k (A.deeper (envOfC qual (defScope st) s.heap.objs.size g cdv)) → CellsAt cl fr ws s.heap H → (∀ y c, cl.lookup y = some c → c ∉ frs outer) → sp ws (mk cl) vs H Q E0 →
      ∃ t, PSs (cxOf CX0 P w K mg base N qual (defScope st) g cdv A outer s H E0) (defBody st) t ∧ t { nx := fun _ H' => Q .non H', rt := Q } (L2.start N vs) H) : GvOk P w K mg base (k + 1) g fd ps mk body fr sp := by
  obtain ⟨oc, od, dV, kV, doc, pm, an, cdv, ct, osl, rfl, lk, hcd, _, _⟩ := D.ex
  exact ⟨fun A outer s H args us vs ws cl Q hr e0 hb r C nf q => run_ofS lk hcd S hr e0 hb r (hlen _ _ _ _ _ _ q) fun hr' => hbody cdv A outer s H vs ws cl Q hr' C nf q⟩
end Pk
namespace Pk
open PySem PySem.Spec
open PyProof.Rows L2
open LamX NdefX
/-! ### tables aside -/
def offT (H : Hp) : Hp := fun a => match H a with
  | some (.tbl _) => none
  | o => o
theorem offT_some {H : Hp} {a : Addr} {o : HO} (h : offT H a = some o) : H a = some o ∧ ∀ ps, o ≠ .tbl ps := by
  unfold offT at h
  cases e : H a with
  | none => rw [e] at h; cases h
  | some u =>
    rw [e] at h
    cases u <;> first | (cases h; done) | (refine ⟨h, fun ps z => ?_⟩; rw [z] at h; cases h)
theorem offT_none {H : Hp} {a : Addr} (h : H a = none) : offT H a = none := by
  unfold offT
  rw [h]
theorem offT_in (H : Hp) : Ex (offT H) H := fun a o e => (offT_some e).1
theorem offT_ne {H : Hp} {a : Addr} {o : HO} (h : H a = some o) (n : ∀ ps, o ≠ .tbl ps) : offT H a = some o := by
  unfold offT
  rw [h]
  cases o <;> first | rfl | exact absurd rfl (n _)
theorem gw0 {H H1 : Hp} (e : Ex (offT H) H1) : Gw (fun _ => none) (offT H) (fun _ => none) H1 := ⟨e, Ex.refl _, (fun a o e => by cases e), fun a _ _ => rfl⟩
theorem LmMade.gw {H0 H H1 : Hp} {P f : Addr} {F : NF} {body : Expr} (m : LmMade H H1 P F body f) (g : Gw (fun _ => none) (offT H0) (fun _ => none) H) : Gw (fun _ => none) (offT H0) (fun _ => none) H1 :=
  gw0 fun a o e => m.ext a o (g.h a o e) (offT_some e).2
theorem tab_ins {H H1 : Hp} {P : Addr} {q : Str} (t : TabS H P q) (e : ∀ b o, H b = some o → (∀ C dx fs, o ≠ .ins C dx fs) → H1 b = some o) : TabS H1 P q := by
  obtain ⟨ps, h1, h2, h3⟩ := t
  refine ⟨ps, e _ _ h1 (fun _ _ _ z => by cases z), h2, fun pos cv hc => ?_⟩
  obtain ⟨c, e1, e2⟩ := h3 pos cv hc
  exact ⟨c, e1, e _ _ e2 (fun _ _ _ z => by unfold CodeO at z; cases z)⟩
theorem tab_upd {H : Hp} {P a : Addr} {q : Str} {C dx : Addr} {fs : Fs} {o : HO} (t : TabS H P q) (h : H a = some (.ins C dx fs)) : TabS (upd H a o) P q := tab_ins t fun b u e n => by
  rw [upd_ne (fun z => by rw [z, h] at e; exact n _ _ _ (Option.some.inj e).symm)]
  exact e
/-- a board that stands still -/
def ObB (K : PySem.W.Frag) (S : Hp) (q : Addr) (ls : List Nat) : Prop := ∃ dx s t m g v, S q = some (.ins (He.ga K "Board") dx (boF s t m g v)) ∧ At S v (eIL (natI ls))
theorem c_makeC {C : Addr} {sp : Sp} {E : XK} {tr : TA} {σ : L2.St} {H : Hp} {Q : VK} (h : tr σ H fun vs H1 => ∀ x dx, H1 x = none → H1 dx = none → dx ≠ x → sp (.ref x :: vs) (upd (upd H1 dx (.own x)) x (.ins C dx [])) (fun v H2 => v = .non ∧ Q (.ref x) H2) E) : tMake C sp [] E tr σ H Q := by
  have e : (fun (vs : List V) (H1 : Hp) => ∀ x dx, H1 x = none → H1 dx = none → dx ≠ x → sp (.ref x :: (vs ++ [])) (upd (upd H1 dx (.own x)) x (.ins C dx [])) (fun v H2 => v = .non ∧ Q (.ref x) H2) E) = fun vs H1 => ∀ x dx, H1 x = none → H1 dx = none → dx ≠ x → sp (.ref x :: vs) (upd (upd H1 dx (.own x)) x (.ins C dx [])) (fun v H2 => v = .non ∧ Q (.ref x) H2) E := by
    funext vs H1
    rw [List.append_nil]
  show tr σ H fun (vs : List V) (H1 : Hp) => ∀ x dx, H1 x = none → H1 dx = none → dx ≠ x → sp (.ref x :: (vs ++ [])) (upd (upd H1 dx (.own x)) x (.ins C dx [])) (fun v H2 => v = .non ∧ Q (.ref x) H2) E
  rw [e]
  exact h
theorem c_meth0C {C : Addr} {m : Str} {sp : Sp} {E : XK} {te : TE} {σ : L2.St} {H : Hp} {Q : VK} (h : te σ H fun x H1 => ∃ a dx fs, x = .ref a ∧ H1 a = some (.ins C dx fs) ∧ fs.lookup m = none ∧ sp [.ref a] H1 Q E) : tMeth C m sp [] E te tNil σ H Q := by
  have e : ∀ x H1, (∃ a dx fs, x = .ref a ∧ H1 a = some (.ins C dx fs) ∧ fs.lookup m = none ∧ sp [.ref a] H1 Q E) = (∃ a dx fs, x = .ref a ∧ H1 a = some (.ins C dx fs) ∧ fs.lookup m = none ∧ sp [x] H1 Q E) := fun x H1 => propext ⟨fun ⟨a, dx, fs, h1, h2⟩ => ⟨a, dx, fs, h1, by rw [h1]; exact h2⟩, fun ⟨a, dx, fs, h1, h2⟩ => ⟨a, dx, fs, h1, by rw [h1] at h2; exact h2⟩⟩
  simp only [e] at h
  exact h
/-! ### the lambda of Board.__init__ -/
abbrev bT (K : PySem.W.Frag) : Addr × Addr := He.cT K ("Board", some "__init__")
def noPos : Pos := ⟨0, 0, 0, 0⟩
def lam_e : Expr := match (defBody s_Board_init).getD 3 (.Pass noPos) with
  | .Assign _ e _ => e
  | _ => .Constant .none 0 noPos
def lam_par : Arguments := match lam_e with
  | .Lambda a _ _ _ => a
  | _ => defArgs (.Pass noPos)
def lam_body : Expr := match lam_e with
  | .Lambda _ b _ _ => b
  | e => e
def lam_scope : Scope := match lam_e with
  | .Lambda _ _ s _ => s
  | _ => defScope (.Pass noPos)
def lam_q : Str := ("Board.__init__" : Str) ++ ".<locals>." ++ "<lambda>"
def lamF (cl : List (Str × Addr)) (c : Addr) : NF := ⟨"<lambda>", lam_q, lam_par, [], lam_scope, cl, c⟩
def lam_N : List Str := ["row", "column", "across", "above", "side", "top"]
def lam_ps : List Str := ["row", "column", "across", "above"]
def lam_fr : List Str := ["side", "top"]
theorem lam_sc : NScope lam_N lam_ps lam_fr lam_scope := nscope_by (by decide +kernel)
theorem lam_nd : ndefB (defScope s_Board_init) lam_scope lam_fr = true := by decide +kernel
def sp_lam (ws : List (Option V)) : Sp := fun vs H Q _ => ∃ (a b : List Nat) (r c x y : Nat), ws = [some (.str (tx a)), some (.str (tx b))] ∧ vs = [.int (r : Nat), .int (c : Nat), .int (x : Nat), .int (y : Nat)] ∧ r < a.length ∧ c < b.length ∧ a.length ≤ 1000 ∧ b.length ≤ 1000 ∧
  Q (.bl (decide (a.getD r 0 ≠ b.getD c 0) && decide (x < y))) H
def t_lam : TE := tAndV (tOp rNe (tOp rIxS (tVar 4) (tVar 0)) (tOp rIxS (tVar 5) (tVar 1))) (tOp oLt (tVar 2) (tVar 3))
section
variable {P : Program} {w : World} {K : PySem.W.Frag} {mg : Str → Option Value} {base : Heap}
theorem w_lam (cl : List (Str × Addr)) (f c' : Addr) (A : Around) (outer : List Env) (s : Shared) (H : Hp) (E : XK) : PE (ncx CX0 P w K mg base lam_N (lamF cl c') f A outer s H E) lam_body t_lam := by
  exact (pe_and (pe_cmpR op_ne (pe_ix ix_str (pv 4) (pv 0) (fun _ _ => rfl)) (pe_ix ix_str (pv 5) (pv 1) (fun _ _ => rfl)) (nomark _)) (pe_one (pe_cmpR op_lt (pv 2) (pv 3) (nomark _))))
theorem ok_lam (cl : List (Str × Addr)) (f c' : Addr) : LmOk P w K mg base 1 f (lamF cl c') lam_body lam_ps lam_fr sp_lam := by
  refine lmok_of (N := lam_N) lam_sc (fun pm ctv us hl => match us, hl with | [_, _, _, _], _ => rfl) (fun ws vs H Q E h => ?_) (fun A outer s H vs ws Q E hr h => ⟨t_lam, w_lam cl f c' A outer s H E, ?_⟩)
  · obtain ⟨a, b, r, c, x, y, _, rfl, _⟩ := h
    rfl
  · obtain ⟨a, b, r, c, x, y, rfl, rfl, h1, h2, h3, h4, k⟩ := h
    have ga : a[r]? = some (a.getD r 0) := by rw [List.getD_eq_getElem?_getD, List.getElem?_eq_getElem h1]; rfl
    have gb : b[c]? = some (b.getD c 0) := by rw [List.getD_eq_getElem?_getD, List.getElem?_eq_getElem h2]; rfl
    refine (val_bl (val_andV (val_ne (val_ixS (val_var rfl) (val_var rfl) (by omega) (at_nat rfl ga)) (val_ixS (val_var rfl) (val_var rfl) (by omega) (at_nat rfl gb)) rfl) (fun _ => val_I0 (val_var rfl) (val_var rfl))) ?_) _ k
    rw [tx_dec]
    congr 1
    · by_cases q : a.getD r 0 = b.getD c 0 <;> simp [q]
    · exact decide_eq_decide.mpr (by omega)
end
end Pk
namespace Pk
open PySem PySem.Spec
open PyProof.Rows L2
/-! ### heaps by how long the longest thread is ahead of a pair -/
theorem lc_step (a b : List Nat) (i j : Nat) : lc a b i (j + 1) ≤ lc a b i j + 1 ∧ lc a b (i + 1) j ≤ lc a b i j + 1 ∧ lc a b i j ≤ lc a b i (j + 1) ∧ lc a b i j ≤ lc a b (i + 1) j := by
  induction h : i + j using Nat.strongRecOn generalizing i j with
  | _ n ih =>
    subst h
    have r1 : lc a b i (j + 1) ≤ lc a b i j + 1 ∧ lc a b i j ≤ lc a b i (j + 1) := by
      cases i with
      | zero => rw [lc_0, lc_0]; omega
      | succ i =>
        have h := ih (i + j) (by omega) i j rfl
        rw [lc_ss]
        split <;> omega
    have r2 : lc a b (i + 1) j ≤ lc a b i j + 1 ∧ lc a b i j ≤ lc a b (i + 1) j := by
      cases j with
      | zero => rw [lc_s0, lc_s0]; omega
      | succ j =>
        have h := ih (i + j) (by omega) i j rfl
        rw [lc_ss]
        split <;> omega
    exact ⟨r1.1, r2.1, r1.2, r2.2⟩
theorem lc_mono (a b : List Nat) {i j i' j' : Nat} (hi : i ≤ i') (hj : j ≤ j') : lc a b i j ≤ lc a b i' j' := by
  have h1 : ∀ d, lc a b i j ≤ lc a b (i + d) j := fun d => by
    induction d with
    | zero => exact Nat.le_refl _
    | succ d ih => exact Nat.le_trans ih (lc_step a b (i + d) j).2.2.2
  have h2 : ∀ d, lc a b i' j ≤ lc a b i' (j + d) := fun d => by
    induction d with
    | zero => exact Nat.le_refl _
    | succ d ih => exact Nat.le_trans ih (lc_step a b i' (j + d)).2.2.1
  have e1 := h1 (i' - i)
  have e2 := h2 (j' - j)
  rw [show i + (i' - i) = i' by omega] at e1
  rw [show j + (j' - j) = j' by omega] at e2
  exact Nat.le_trans e1 e2
theorem lc_match (a b : List Nat) {i j : Nat} (h : a[i]? = b[j]?) : lc a b (i + 1) (j + 1) = lc a b i j + 1 := by rw [lc_ss, if_pos h]
theorem lc_cover (a b : List Nat) (i j h : Nat) (hh : h < lc a b i j) : ∃ p : Nat × Nat, p.1 < i ∧ p.2 < j ∧ a[p.1]? = b[p.2]? ∧ lc a b p.1 p.2 = h := by
  induction hn : i + j using Nat.strongRecOn generalizing i j with
  | _ n ih =>
    subst hn
    cases i with
    | zero => rw [lc_0] at hh; omega
    | succ i =>
      cases j with
      | zero => rw [lc_s0] at hh; omega
      | succ j =>
        rw [lc_ss] at hh
        by_cases e : a[i]? = b[j]?
        · rw [if_pos e] at hh
          by_cases q : h = lc a b i j
          · exact ⟨(i, j), Nat.lt_succ_self _, Nat.lt_succ_self _, e, q.symm⟩
          · obtain ⟨p, p1, p2, p3⟩ := ih (i + j) (by omega) i j (by omega) rfl
            exact ⟨p, by omega, by omega, p3⟩
        · rw [if_neg e] at hh
          by_cases q : h < lc a b i (j + 1)
          · obtain ⟨p, p1, p2, p3⟩ := ih (i + (j + 1)) (by omega) i (j + 1) q rfl
            exact ⟨p, by omega, by omega, p3⟩
          · obtain ⟨p, p1, p2, p3⟩ := ih (i + 1 + j) (by omega) (i + 1) j (by omega) rfl
            exact ⟨p, by omega, by omega, p3⟩
/-- of pairs those of a level -/
def lvl (a b : List Nat) (P : List (Nat × Nat)) (h : Nat) : List (Nat × Nat) := P.filter fun p => decide (lc a b p.1 p.2 = h)
def hps (a b : List Nat) : List (List (Nat × Nat)) := (List.range (lc a b a.length b.length)).map (lvl a b (prs a b))
theorem hps_len (a b : List Nat) : (hps a b).length = lc a b a.length b.length := by unfold hps; simp
theorem lvl_app (a b : List Nat) (P Q : List (Nat × Nat)) (h : Nat) : lvl a b (P ++ Q) h = lvl a b P h ++ lvl a b Q h := List.filter_append ..
theorem lvl_one (a b : List Nat) (p : Nat × Nat) (h : Nat) : lvl a b [p] h = if lc a b p.1 p.2 = h then [p] else [] := by
  unfold lvl
  by_cases q : lc a b p.1 p.2 = h
  · rw [if_pos q, List.filter_cons_of_pos (by simpa using q)]; rfl
  · rw [if_neg q, List.filter_cons_of_neg (by simpa using q)]; rfl
theorem filter_two {α : Type} (p q r : α → Bool) (l : List α) (h : ∀ x ∈ l, r x = (p x || q x) ∧ (p x && q x) = false) : (l.filter p ++ l.filter q).Perm (l.filter r) := by
  induction l with
  | nil => exact List.Perm.refl _
  | cons x l ih =>
    have ih := ih fun y hy => h y (by simp [hy])
    obtain ⟨h1, h2⟩ := h x (by simp)
    cases hp : p x with
    | true =>
      have hq : q x = false := by rw [hp] at h2; simpa using h2
      have hr : r x = true := by rw [h1, hp]; rfl
      rw [List.filter_cons_of_pos hp, List.filter_cons_of_neg (by rw [hq]; decide), List.filter_cons_of_pos hr]
      exact List.Perm.cons x ih
    | false =>
      cases hq : q x with
      | true =>
        have hr : r x = true := by rw [h1, hp, hq]; rfl
        rw [List.filter_cons_of_neg (by rw [hp]; decide), List.filter_cons_of_pos hq, List.filter_cons_of_pos hr]
        exact List.perm_middle.trans (List.Perm.cons x ih)
      | false =>
        have hr : r x = false := by rw [h1, hp, hq]; rfl
        rw [List.filter_cons_of_neg (by rw [hp]; decide), List.filter_cons_of_neg (by rw [hq]; decide), List.filter_cons_of_neg (by rw [hr]; decide)]
        exact ih
theorem lvl_perm (a b : List Nat) (P : List (Nat × Nat)) (L : Nat) : ((List.range L).map (lvl a b P)).flatten.Perm (P.filter fun p => decide (lc a b p.1 p.2 < L)) := by
  induction L with
  | zero =>
    have e : P.filter (fun p => decide (lc a b p.1 p.2 < 0)) = [] := List.filter_eq_nil_iff.mpr fun x _ => by simp
    rw [e]
    exact List.Perm.refl _
  | succ L ih =>
    rw [List.range_succ, List.map_append, List.flatten_append, List.map_cons, List.map_nil, List.flatten_cons, List.flatten_nil, List.append_nil]
    refine (ih.append_right _).trans (filter_two _ _ _ P fun p _ => ?_)
    constructor
    · by_cases q : lc a b p.1 p.2 < L
      · simp [q, Nat.lt_succ_of_lt q]
      · by_cases q2 : lc a b p.1 p.2 = L
        · simp [q2]
        · simp [q, q2]; omega
    · by_cases q : lc a b p.1 p.2 < L
      · simp; omega
      · simp [q]
theorem hps_ok (a b : List Nat) : HeapsOk a b (hps a b) := by
  constructor
  · intro h hh
    obtain ⟨k, hk, rfl⟩ := List.mem_map.mp hh
    have hk := List.mem_range.mp hk
    have mem : ∀ p, p ∈ lvl a b (prs a b) k ↔ prOk a b p ∧ lc a b p.1 p.2 = k := fun p => by
      unfold lvl
      rw [List.mem_filter, prs_mem, decide_eq_true_eq]
    refine ⟨fun z => ?_, fun p hp => ((mem p).mp hp).1, List.Pairwise.filter _ (prs_nodup a b), fun p hp q hq ⟨l1, l2⟩ => ?_⟩
    · obtain ⟨p, p1, p2, p3, p4⟩ := lc_cover a b _ _ k hk
      have := (mem p).mpr ⟨⟨p1, p2, p3⟩, p4⟩
      rw [z] at this
      cases this
    · obtain ⟨⟨_, _, e⟩, k1⟩ := (mem p).mp hp
      obtain ⟨_, k2⟩ := (mem q).mp hq
      have h1 := lc_match a b e
      have h2 := lc_mono a b (show p.1 + 1 ≤ q.1 by omega) (show p.2 + 1 ≤ q.2 by omega)
      omega
  · refine (lvl_perm a b (prs a b) _).trans ?_
    have e : (prs a b).filter (fun p => decide (lc a b p.1 p.2 < lc a b a.length b.length)) = prs a b := by
      refine List.filter_eq_self.mpr fun p hp => ?_
      obtain ⟨p1, p2, p3⟩ := prs_mem.mp hp
      have h1 := lc_match a b p3
      have h2 := lc_mono a b (show p.1 + 1 ≤ a.length by omega) (show p.2 + 1 ≤ b.length by omega)
      simp
      omega
    rw [e]
/-! pairs as they are met -/
def met (a b : List Nat) (i j : Nat) : List (Nat × Nat) := (List.range i).flatMap (prs1 a b) ++ ((List.range j).filter fun j => decide (b[j]? = a[i]?)).map fun j => (i, j)
theorem met_row (a b : List Nat) (i : Nat) : met a b i b.length = met a b (i + 1) 0 := by
  unfold met
  rw [List.range_succ, List.flatMap_append]
  show _ = _ ++ []
  rw [List.append_nil]
  refine congrArg _ ?_
  rw [show [i].flatMap (prs1 a b) = prs1 a b i by simp]
  rfl
theorem met_all (a b : List Nat) : met a b a.length 0 = prs a b := by
  unfold met prs
  show _ ++ [] = _
  rw [List.append_nil]
theorem met_yes {a b : List Nat} {i j : Nat} (h : a[i]? = b[j]?) : met a b i (j + 1) = met a b i j ++ [(i, j)] := by
  unfold met
  rw [List.range_succ, List.filter_append, List.map_append, List.filter_cons_of_pos (by simp [h]), List.append_assoc]
  rfl
theorem met_no {a b : List Nat} {i j : Nat} (h : a[i]? ≠ b[j]?) : met a b i (j + 1) = met a b i j := by
  unfold met
  rw [List.range_succ, List.filter_append, List.filter_cons_of_neg (by simpa using fun z => h z.symm)]
  simp
/-- how many levels are met -/
def lvs (a b : List Nat) (i j : Nat) : Nat := max (lc a b i b.length) (lc a b (i + 1) j)
theorem lvs_0 (a b : List Nat) : lvs a b 0 0 = 0 := by unfold lvs; rw [lc_0, lc_s0]; rfl
theorem lvs_row (a b : List Nat) (i : Nat) : lvs a b i b.length = lvs a b (i + 1) 0 := by
  unfold lvs
  rw [lc_s0]
  have := lc_step a b i b.length
  omega
theorem lvs_end (a b : List Nat) : lvs a b a.length 0 = lc a b a.length b.length := by unfold lvs; rw [lc_s0]; omega
theorem lvs_no {a b : List Nat} {i j : Nat} (h : a[i]? ≠ b[j]?) (hj : j < b.length) : lvs a b i (j + 1) = lvs a b i j := by
  unfold lvs
  rw [lc_ss, if_neg h]
  have := lc_mono a b (Nat.le_refl i) (show j + 1 ≤ b.length by omega)
  have := lc_step a b i j
  omega
theorem lvs_le {a b : List Nat} {i j : Nat} (hj : j < b.length) : lc a b i j ≤ lvs a b i j := by
  unfold lvs
  have := lc_mono a b (Nat.le_refl i) (show j ≤ b.length by omega)
  omega
theorem lvs_new {a b : List Nat} {i j : Nat} (h : a[i]? = b[j]?) (e : lc a b i j = lvs a b i j) : lvs a b i (j + 1) = lvs a b i j + 1 := by
  rw [← e]
  unfold lvs at e ⊢
  rw [lc_match a b h]
  omega
theorem lvs_old {a b : List Nat} {i j : Nat} (h : a[i]? = b[j]?) (hj : j < b.length) (e : lc a b i j ≠ lvs a b i j) : lvs a b i (j + 1) = lvs a b i j := by
  have h1 := lvs_le (a := a) (i := i) hj
  unfold lvs at e h1 ⊢
  rw [lc_match a b h]
  have := lc_step a b i j
  omega
theorem met_lvl {a b : List Nat} {i j : Nat} (hi : i < a.length) (hj : j ≤ b.length) : ∀ p ∈ met a b i j, lc a b p.1 p.2 < lvs a b i j := by
  intro p hp
  unfold met at hp
  unfold lvs
  rcases List.mem_append.mp hp with h | h
  · obtain ⟨r, hr, h⟩ := List.mem_flatMap.mp h
    have hr := List.mem_range.mp hr
    obtain ⟨c, hc, rfl⟩ := List.mem_map.mp h
    obtain ⟨hc, e⟩ := List.mem_filter.mp hc
    have hc := List.mem_range.mp hc
    have e := of_decide_eq_true e
    have h1 := lc_match a b e.symm
    have h2 := lc_mono a b (show r + 1 ≤ i by omega) (show c + 1 ≤ b.length by omega)
    simp only
    omega
  · obtain ⟨c, hc, rfl⟩ := List.mem_map.mp h
    obtain ⟨hc, e⟩ := List.mem_filter.mp hc
    have hc := List.mem_range.mp hc
    have e := of_decide_eq_true e
    have h1 := lc_match a b e.symm
    have h2 := lc_mono a b (Nat.le_refl (i + 1)) (show c + 1 ≤ j by omega)
    simp only
    omega
theorem lvl_none {a b : List Nat} {i j : Nat} (hi : i < a.length) (hj : j ≤ b.length) {h : Nat} (hh : lvs a b i j ≤ h) : lvl a b (met a b i j) h = [] := List.filter_eq_nil_iff.mpr fun p hp => by
  have := met_lvl hi hj p hp
  simp
  omega
/-- one in a heap of its own -/
theorem split_ok {a b : List Nat} {H1 H2 : List (List (Nat × Nat))} {h : List (Nat × Nat)} (ok : HeapsOk a b (H1 ++ h :: H2)) (hl : 2 ≤ h.length) : HeapsOk a b (H1 ++ [h.drop 1, h.take 1] ++ H2) := by
  obtain ⟨k1, k2⟩ := ok
  have kh := k1 h (by simp)
  have sub : ∀ g : List (Nat × Nat), g ≠ [] → g.Sublist h → HeapOk a b g := fun g gn gs => ⟨gn, fun p hp => kh.2.1 p (gs.subset hp), kh.2.2.1.sublist gs, fun p hp q hq => kh.2.2.2 p (gs.subset hp) q (gs.subset hq)⟩
  constructor
  · intro g hg
    rcases List.mem_append.mp hg with hg | hg
    · rcases List.mem_append.mp hg with hg | hg
      · exact k1 g (by simp [hg])
      · rcases List.mem_cons.mp hg with e | hg
        · rw [e]
          exact sub _ (fun z => by have := congrArg List.length z; rw [List.length_drop, List.length_nil] at this; omega) (List.drop_sublist _ _)
        · rw [List.mem_singleton.mp hg]
          exact sub _ (fun z => by have := congrArg List.length z; rw [List.length_take, List.length_nil] at this; omega) (List.take_sublist _ _)
    · exact k1 g (by simp [hg])
  · refine List.Perm.trans ?_ k2
    simp only [List.flatten_append, List.flatten_cons, List.flatten_nil, List.append_nil, List.append_assoc]
    refine List.Perm.append_left _ ?_
    rw [← List.append_assoc]
    refine List.Perm.append_right _ ?_
    refine List.perm_append_comm.trans ?_
    rw [List.take_append_drop]
end Pk
namespace Pk
open PySem PySem.Spec
open PyProof.Rows L2
/-- [list(one) for one in part]: the same data anew -/
theorem c_copy {K : PySem.W.Frag} {S H0 H : Hp} {σ : L2.St} {i : Nat} {wi : TI} {q : Addr} {vs : List V} {hs : List (List (Nat × Nat))} {Q : VK} (hi : i < σ.length) (hw : ∀ R : It → Hp → Prop, R (Itl K q) H → wi σ H0 R) (hq : S q = some (.lst vs)) (hA : AtA S vs (hs.map ePrs)) (e : Ex S H) (hz : hs.length ≤ 5000)
    (hd : ∀ S' H' D acc, Gw S H S' H' → S' D = none → H D = none → H' D = some (.lst acc) → AtA S' acc (hs.map ePrs) → Q (.ref D) H') : tLc wi (gName i) tYes (tCB (cListOf K) (tCons (tVar i) tNil)) [i] σ H0 Q := by
  have hn := hA.lenM
  refine c_tlc (S := S) hw (walk_list (K := K) (a := q) (xs := vs)) (fun n S acc => AtA S acc ((hs.take n).map ePrs)) e (fun H' e => SqL.of (e _ _ hq)) .nil (fun n S' H' acc x H'' R L hk g1 hF hy kR kL => ?_) (fun D S' H' acc hF g1 sD hD eD => ?_)
  · obtain ⟨rfl, hx⟩ := hy
    obtain ⟨h, hh, hat⟩ := hA.getM hx
    obtain ⟨r, us, rfl, hr, hU⟩ := (hat.mono g1.s).lst_
    have hs1 : ((wipe σ [i]).set i (some (.ref r)))[i]? = some (some (.ref r)) := by
      rw [List.getElem?_set, if_pos rfl, if_pos (by show i < (σ.set i none).length; rw [List.length_set]; exact hi)]
    refine ⟨by show ((σ.set i none).set i (some (.ref r))).set i none = σ.set i none; rw [List.set_set, List.set_set], c_yes (te := tCB _ _) (c_cb (va_1 (val_var hs1)) ⟨r, us, rfl, .inl (SqL.of (g1.i _ _ hr)), fun l hl => kR _ (upd S' l (.lst us)) _ ((Gw.refl g1.i).put hl) ?_ ?_⟩)⟩
    · rw [List.take_succ, hh, List.map_append]
      exact (hF.mono (Ex.new (g1.freeS hl))).snoc (.lst upd_same (hU.mono (Ex.new (g1.freeS hl))))
    · rw [hF.lenM, List.length_take]; omega
  · rw [List.take_of_length_le (by omega)] at hF
    exact hd S' H' D acc g1 sD hD eD hF
section
variable {te : TE} {u : TT} {σ : L2.St} {H : Hp} {Q : Bool → Hp → Prop}
theorem orT_C (h : te σ H fun v H1 => ∃ b, v = .bl b ∧ (if b = true then Q true H1 else u σ H1 Q)) : tOr (tTest te) u σ H Q := h
theorem orN_C (h : te σ H fun v H1 => ∃ c, v = .bl c ∧ (if (!c) = true then Q true H1 else u σ H1 Q)) : tOr (tNot (tB te)) u σ H Q := h
theorem tst_C (h : te σ H fun v H1 => ∃ b, v = .bl b ∧ Q b H1) : tTest te σ H Q := h
theorem notb_C (h : te σ H fun v H1 => ∃ c, v = .bl c ∧ Q (!c) H1) : tNot (tB te) σ H Q := h
end
theorem tup_C {tr : TA} {σ : L2.St} {H : Hp} {Q : VK} (h : tr σ H fun vs H1 => vs.length ≤ sizeLine ∧ ∀ p, H1 p = none → Q (.ref p) (upd H1 p (.tup vs))) : tTup tr σ H Q := h
theorem or_C {ta tb : TE} {σ : L2.St} {H : Hp} {Q : VK} {a : Bool} (h : Val ta σ H (.bl a)) (k : if a = true then Q (.bl true) H else tb σ H Q) : tOrV ta tb σ H Q := h _ ⟨a, rfl, k⟩
theorem c_copyS {K : PySem.W.Frag} {S H0 : Hp} {σ : L2.St} {i : Nat} {wi : TI} {vs : List V} {hs : List (List (Nat × Nat))} {Q : VK} (hi : i < σ.length) (hw : ∀ R : It → Hp → Prop, (∀ q, H0 q = none → R (Itl K q) (upd H0 q (.lst vs))) → wi σ H0 R) (hA : AtA S vs (hs.map ePrs)) (e : Ex S H0) (hz : hs.length ≤ 5000)
    (hd : ∀ S' H' D acc, Gw S H0 S' H' → S' D = none → H0 D = none → H' D = some (.lst acc) → AtA S' acc (hs.map ePrs) → Q (.ref D) H') : tLc wi (gName i) tYes (tCB (cListOf K) (tCons (tVar i) tNil)) [i] σ H0 Q := by
  refine hw _ fun q hq => ?_
  have g := (Gw.refl e).put (o := .lst vs) hq
  have c := c_copy (K := K) (S := upd S q (.lst vs)) (H0 := H0) (H := upd H0 q (.lst vs)) (σ := σ) (i := i) (wi := fun _ _ R => R (Itl K q) (upd H0 q (.lst vs))) (q := q) (vs := vs) (hs := hs) (Q := Q) hi (fun R h => h) upd_same (hA.mono (Ex.new (e.free hq))) g.i hz (fun S' H' D acc g2 sD hD eD a => hd S' H' D acc (g.trans g2) sD ((Ex.new hq).free hD) eD a)
  exact c
end Pk
namespace Pk
open PySem PySem.Spec
open PyProof.Rows L2
/-! ## _law_cell_at -/
theorem sc_law_cell_at : FnScope ["_law_script", "_law_k"] ["_law_script", "_law_k"] (defScope s_law_cell_at) := ⟨rfl, rfl, rfl, by decide +kernel, rfl, by decide +kernel, by decide +kernel⟩
def sp_law_cell_at (K : PySem.W.Frag) : Sp := fun vs H Q _ => ∃ (p : Addr) (ns : List Int) (i : Int), vs = [.ref p, .int i] ∧ SqL K H p (ns.map V.int) ∧ (i = 0 ∨ i = 1) ∧ ∀ z, Q (.int z) H
def t_law_cell_at (K : PySem.W.Frag) : TS := (tSeq (tIfS (tTest (tOp oLt (tVar 1) (tCB (cLenL K) (tCons (tVar 0) tNil)))) (tRet (tOp (rIxL K) (tVar 0) (tVar 1))) tNext)
  (tRet (tC (.int 0))))
section
variable {P : Program} {w : World} {K : PySem.W.Frag} {mg : Str → Option Value} {base : Heap}
theorem w_law_cell_at (T : Txt w K mg) (cdv : Value) (A : Around) (outer : List Env) (s : Shared) (H : Hp) (E : XK) (hr : Room 0 (A.deeper (envOfC "_law_cell_at" (defScope s_law_cell_at) s.heap.objs.size (He.ga K "_law_cell_at") cdv))) :
    PSs (cxOf CX0 P w K mg base ["_law_script", "_law_k"] "_law_cell_at" (defScope s_law_cell_at) (He.ga K "_law_cell_at") cdv A outer s H E).nox (defBody s_law_cell_at) (t_law_cell_at K) := by
  exact (pss_cons (ps_if (pt_cmpR op_lt (pv 1) (pe_callB cl_lenL (by exact rfl) T.n_len PySem.boot_len (pa_cons (pv 0) pa_nil)) (nomark _)) (pss_one (ps_ret (pe_ix ix_list (pv 0) (pv 1) (fun _ _ => rfl)))) pss_nil)
  (pss_one (ps_ret pe_int)))
theorem r_law_cell_at (T : Txt w K mg) (vs : List V) (H : Hp) (Q : VK) (E : XK) (h : sp_law_cell_at K vs H Q E) : t_law_cell_at K { nx := fun _ H' => Q .non H', rt := Q } (start ["_law_script", "_law_k"] vs) H := by
  obtain ⟨p, ns, i, rfl, hp, hi, k⟩ := h
  refine x_when (Ans.to (ans_te (val_I0 (val_var rfl) (val_lenQ (val_var rfl) hp))) rfl) (fun hb => ?_) (fun _ => x_ret val_c (k 0))
  have h2 : i < ((ns.map V.int).length : Nat) := of_decide_eq_true hb
  rw [List.length_map] at h2
  have h3 : i.toNat < ns.length := by rcases hi with rfl | rfl <;> omega
  refine x_ret (val_ixQ (val_var rfl) (val_var rfl) hp (at_nat (j := i.toNat) (by rcases hi with rfl | rfl <;> rfl) (map_get (List.getElem?_eq_getElem h3)))) (k _)
theorem ok_law_cell_at (T : Txt w K mg) : Df P w K mg base 1 (He.ga K "_law_cell_at") ["_law_script", "_law_k"] (sp_law_cell_at K) :=
  df_of T.f_law_cell_at sc_law_cell_at (fun _ _ _ _ _ _ us hl => match us, hl with | [_, _], _ => rfl) (fun vs H Q E h => by
    obtain ⟨p, ns, i, rfl, _⟩ := h
    rfl) (fun cdv A outer s H E hr => w_law_cell_at T cdv A outer s H E hr) (fun vs H Q E h => r_law_cell_at T vs H Q E h)
end
end Pk
namespace Pk
open PySem PySem.Spec
open PyProof.Rows L2
/-! ## _law_great -/
theorem sc_law_great : FnScope ["_law_cell", "_law_found", "_law_number", "_law_k"] ["_law_cell"] (defScope s_law_great) := ⟨rfl, rfl, rfl, by decide +kernel, rfl, by decide +kernel, by decide +kernel⟩
def sp_law_great (K : PySem.W.Frag) : Sp := fun vs H Q _ => ∃ (n : Int), vs = [.int n] ∧ ∀ z : Int, Q (.int z) H
def t_law_great (K : PySem.W.Frag) : TS := (tSeq (tIfS (tTest (tOp oGe (tVar 0) (tOp oPow (tC (.int 10)) (tC (.int 18))))) (tRet (tVar 0)) tNext)
  (tSeq (tAsg (tC (.int 0)) (gName 1))
  (tSeq (tAsg (tOp oAdd (tOp oMod (tVar 0) (tC (.int 2147483647))) (tC (.int 12345))) (gName 2))
  (tSeq (tFor (iRng1 (tCons (tC (.int 8)) tNil)) (gName 3) (tSeq (tAsg (tOp oMod (tOp oAdd (tOp oAdd (tOp oMul (tVar 2) (tVar 2)) (tOp oMul (tC (.int 48271)) (tVar 2))) (tVar 3)) (tC (.int 2147483647))) (gName 2))
  (tAsg (tOp oAdd (tOp oMul (tVar 1) (tC (.int 2147483629))) (tOp oMod (tOp oMul (tVar 2) (tC (.int 69621))) (tC (.int 2147483629)))) (gName 1))))
  (tRet (tVar 1))))))
section
variable {P : Program} {w : World} {K : PySem.W.Frag} {mg : Str → Option Value} {base : Heap}
theorem w_law_great (T : Txt w K mg) (cdv : Value) (A : Around) (outer : List Env) (s : Shared) (H : Hp) (E : XK) (hr : Room 0 (A.deeper (envOfC "_law_great" (defScope s_law_great) s.heap.objs.size (He.ga K "_law_great") cdv))) :
    PSs (cxOf CX0 P w K mg base ["_law_cell", "_law_found", "_law_number", "_law_k"] "_law_great" (defScope s_law_great) (He.ga K "_law_great") cdv A outer s H E).nox (defBody s_law_great) (t_law_great K) := by
  exact (pss_cons (ps_if (pt_cmpR op_ge (pv 0) (pe_op op_pow pe_int pe_int) (nomark _)) (pss_one (ps_ret (pv 0))) pss_nil)
  (pss_cons (ps_set (i := 1) sc_law_great.nd rfl (Or.inl rfl) pe_int)
  (pss_cons (ps_set (i := 2) sc_law_great.nd rfl (Or.inl rfl) (pe_op op_add (pe_op op_mod (pv 0) pe_int) pe_int))
  (pss_cons (ps_for PassesOwn.never rfl (pi_range1 (by exact rfl) T.n_range (pa_cons pe_int pa_nil)) (pg_name (i := 3) sc_law_great.nd rfl (Or.inl rfl)) (pss_cons (ps_set (i := 2) sc_law_great.nd rfl (Or.inl rfl) (pe_op op_mod (pe_op op_add (pe_op op_add (pe_op op_mul (pv 2) (pv 2)) (pe_op op_mul pe_int (pv 2))) (pv 3)) pe_int))
  (pss_one (ps_set (i := 1) sc_law_great.nd rfl (Or.inl rfl) (pe_op op_add (pe_op op_mul (pv 1) pe_int) (pe_op op_mod (pe_op op_mul (pv 2) pe_int) pe_int))))))
  (pss_one (ps_ret (pv 1)))))))
theorem r_law_great (T : Txt w K mg) (vs : List V) (H : Hp) (Q : VK) (E : XK) (h : sp_law_great K vs H Q E) : t_law_great K { nx := fun _ H' => Q .non H', rt := Q } (start ["_law_cell", "_law_found", "_law_number", "_law_k"] vs) H := by
  obtain ⟨n, rfl, k⟩ := h
  refine x_when (b := decide ((10 : Int) ^ 18 ≤ n)) (Ans.to (ans_te (val_I0 (val_var rfl) (val_I val_c val_c ⟨by decide, by decide, by decide⟩))) rfl) (fun _ => x_ret (val_var rfl) (k n)) (fun _ => ?_)
  refine x_set val_c (x_set (val_I0 (val_I (val_var rfl) val_c (by decide)) val_c) ?_)
  refine x_forR (n := 8) val_c (by omega) (fun m σ' H' => H' = H ∧ ∃ (f u : Int) (z3 : Option V), σ' = [some (.int n), some (.int f), some (.int u), z3] ∧ 0 ≤ u ∧ u < 4294967296) ⟨rfl, 0, n % 2147483647 + 12345, none, rfl, by omega, by omega⟩ ?_ ?_
  · rintro m σ' H' hm ⟨rfl, f, u, z3, rfl, hu, hu2⟩
    refine x_set (val_I (val_I0 (val_I0 (val_I (val_var rfl) (val_var rfl) (.inl ⟨by omega, by omega⟩)) (val_I val_c (val_var rfl) (.inl ⟨by decide, by decide⟩))) (val_var rfl)) val_c (by decide)) ?_
    generalize hw : (u * u + 48271 * u + ((m : Nat) : Int)) % 2147483647 = w
    have hw1 : 0 ≤ w ∧ w < 2147483647 := by rw [← hw]; omega
    refine y_set (val_I0 (val_I (val_var rfl) val_c (.inr ⟨by decide, by decide⟩)) (val_I (val_I (val_var rfl) val_c (.inr ⟨by decide, by decide⟩)) val_c (by decide))) ⟨rfl, _, w, _, rfl, hw1.1, by omega⟩
  · rintro σ' H' ⟨rfl, f, u, z3, rfl, _⟩
    exact x_ret (val_var rfl) (k f)
theorem ok_law_great (T : Txt w K mg) : Df P w K mg base 1 (He.ga K "_law_great") ["_law_cell"] (sp_law_great K) :=
  df_of T.f_law_great sc_law_great (fun _ _ _ _ _ _ us hl => match us, hl with | [_], _ => rfl) (fun vs H Q E h => by
    obtain ⟨n, rfl, _⟩ := h
    rfl) (fun cdv A outer s H E hr => w_law_great T cdv A outer s H E hr) (fun vs H Q E h => r_law_great T vs H Q E h)
end
end Pk
namespace Pk
open PySem PySem.Spec
open PyProof.Rows L2
/-! ## _law_letter -/
theorem sc_law_letter : FnScope ["_law_number"] ["_law_number"] (defScope s_law_letter) := ⟨rfl, rfl, rfl, by decide +kernel, rfl, by decide +kernel, by decide +kernel⟩
def sp_law_letter (K : PySem.W.Frag) : Sp := fun vs H Q _ => ∃ (n : Int), vs = [.int n] ∧ Q (.str (tx [97 + (n % 26).toNat])) H
def t_law_letter (K : PySem.W.Frag) : TS := (tRet (tOp rIxS (tC (.str "abcdefghijklmnopqrstuvwxyz")) (tOp oMod (tVar 0) (tC (.int 26)))))
section
variable {P : Program} {w : World} {K : PySem.W.Frag} {mg : Str → Option Value} {base : Heap}
theorem w_law_letter (T : Txt w K mg) (cdv : Value) (A : Around) (outer : List Env) (s : Shared) (H : Hp) (E : XK) (hr : Room 0 (A.deeper (envOfC "_law_letter" (defScope s_law_letter) s.heap.objs.size (He.ga K "_law_letter") cdv))) :
    PSs (cxOf CX0 P w K mg base ["_law_number"] "_law_letter" (defScope s_law_letter) (He.ga K "_law_letter") cdv A outer s H E).nox (defBody s_law_letter) (t_law_letter K) := by
  exact (pss_one (ps_ret (pe_ix ix_str pe_str (pe_op op_mod (pv 0) pe_int) (fun _ _ => rfl))))
theorem r_law_letter (T : Txt w K mg) (vs : List V) (H : Hp) (Q : VK) (E : XK) (h : sp_law_letter K vs H Q E) : t_law_letter K { nx := fun _ H' => Q .non H', rt := Q } (start ["_law_number"] vs) H := by
  obtain ⟨n, rfl, k⟩ := h
  have e : ("abcdefghijklmnopqrstuvwxyz" : Str) = tx (List.range' 97 26) := by rw [← letters_list]; exact tx_of _
  have h1 : 0 ≤ n % 26 ∧ n % 26 < 26 := ⟨Int.emod_nonneg _ (by decide), Int.emod_lt_of_pos _ (by decide)⟩
  refine x_ret (val_ixS (l := List.range' 97 26) (val_is val_c (by rw [e])) (val_I (val_var rfl) val_c (by decide)) (by simp) (at_nat (j := (n % 26).toNat) (by omega) ?_)) k
  rw [List.getElem?_range' (by omega)]
  simp
theorem ok_law_letter (T : Txt w K mg) : Df P w K mg base 1 (He.ga K "_law_letter") ["_law_number"] (sp_law_letter K) :=
  df_of T.f_law_letter sc_law_letter (fun _ _ _ _ _ _ us hl => match us, hl with | [_], _ => rfl) (fun vs H Q E h => by
    obtain ⟨n, rfl, _⟩ := h
    rfl) (fun cdv A outer s H E hr => w_law_letter T cdv A outer s H E hr) (fun vs H Q E h => r_law_letter T vs H Q E h)
end
end Pk
namespace Pk
open PySem PySem.Spec
open PyProof.Rows L2
/-! ## _law_row -/
theorem sc_law_row : FnScope ["_law_cell", "_law_most", "_law_number", "_law_many", "_law_wide", "_law_first", "_law_row_here", "_law_k"] ["_law_cell", "_law_most"] (defScope s_law_row) := ⟨rfl, rfl, rfl, by decide +kernel, rfl, by decide +kernel, by decide +kernel⟩
def sp_law_row (K : PySem.W.Frag) : Sp := fun vs H Q _ => ∃ (n : Int), vs = [.int n, .int 24] ∧ ∀ H' l, Ex H H' → Plain l → Q (.str (tx l)) H'
def t_law_row (K : PySem.W.Frag) : TS := (tSeq (tAsg (tCall (sp_law_great K) [] E0 (tCons (tVar 0) tNil)) (gName 2))
  (tSeq (tAsg (tOp oMod (tVar 2) (tC (.int 9))) (gName 3))
  (tSeq (tIfS (tTest (tOp rEq (tOp oMod (tOp oFdv (tVar 2) (tC (.int 9))) (tC (.int 8))) (tC (.int 7)))) (tAsg (tOp oMod (tOp oFdv (tVar 2) (tC (.int 72))) (tOp oAdd (tVar 1) (tC (.int 1)))) (gName 3)) tNext)
  (tSeq (tAsg (tOp oFdv (tVar 2) (tC (.int 1800))) (gName 2))
  (tSeq (tAsg (tOp (rIxL K) (tLst (tCons (tC (.int 1)) (tCons (tC (.int 2)) (tCons (tC (.int 2)) (tCons (tC (.int 3)) (tCons (tC (.int 4)) (tCons (tC (.int 26)) tNil))))))) (tOp oMod (tVar 2) (tC (.int 6)))) (gName 4))
  (tSeq (tAsg (tOp oFdv (tVar 2) (tC (.int 6))) (gName 5))
  (tSeq (tAsg (tOp oFdv (tVar 5) (tC (.int 26))) (gName 2))
  (tSeq (tAsg (tC (.str "")) (gName 6))
  (tSeq (tFor (iRng1 (tCons (tVar 3) tNil)) (gName 7) (tSeq (tAsg (tOp oCatS (tVar 6) (tCall (sp_law_letter K) [] E0 (tCons (tOp oAdd (tOp oMod (tVar 5) (tC (.int 26))) (tOp oMod (tVar 2) (tVar 4))) tNil))) (gName 6))
  (tAsg (tOp oFdv (tVar 2) (tVar 4)) (gName 2))))
  (tRet (tVar 6)))))))))))
section
variable {P : Program} {w : World} {K : PySem.W.Frag} {mg : Str → Option Value} {base : Heap}
theorem w_law_row (T : Txt w K mg) (cdv : Value) (A : Around) (outer : List Env) (s : Shared) (H : Hp) (E : XK) (hr : Room 1 (A.deeper (envOfC "_law_row" (defScope s_law_row) s.heap.objs.size (He.ga K "_law_row") cdv))) :
    PSs (cxOf CX0 P w K mg base ["_law_cell", "_law_most", "_law_number", "_law_many", "_law_wide", "_law_first", "_law_row_here", "_law_k"] "_law_row" (defScope s_law_row) (He.ga K "_law_row") cdv A outer s H E).nox (defBody s_law_row) (t_law_row K) := by
  obtain ⟨⟨fd_law_great, F_law_great, b_law_great⟩, k_law_great⟩ := ok_law_great (P := P) (base := base) T
  obtain ⟨⟨fd_law_letter, F_law_letter, b_law_letter⟩, k_law_letter⟩ := ok_law_letter (P := P) (base := base) T
  exact (pss_cons (ps_set (i := 2) sc_law_row.nd rfl (Or.inl rfl) (pe_call F_law_great (hr.mono (by decide)) (by exact rfl) T.g_law_great k_law_great b_law_great .nil pass0 (pa_cons (pv 0) pa_nil)))
  (pss_cons (ps_set (i := 3) sc_law_row.nd rfl (Or.inl rfl) (pe_op op_mod (pv 2) pe_int))
  (pss_cons (ps_if (pt_cmpR op_eq (pe_op op_mod (pe_op op_fdiv (pv 2) pe_int) pe_int) pe_int (nomark _)) (pss_one (ps_set (i := 3) sc_law_row.nd rfl (Or.inl rfl) (pe_op op_mod (pe_op op_fdiv (pv 2) pe_int) (pe_op op_add (pv 1) pe_int)))) pss_nil)
  (pss_cons (ps_set (i := 2) sc_law_row.nd rfl (Or.inl rfl) (pe_op op_fdiv (pv 2) pe_int))
  (pss_cons (ps_set (i := 4) sc_law_row.nd rfl (Or.inl rfl) (pe_ix ix_list (pe_lst (pa_cons pe_int (pa_cons pe_int (pa_cons pe_int (pa_cons pe_int (pa_cons pe_int (pa_cons pe_int pa_nil))))))) (pe_op op_mod (pv 2) pe_int) (fun _ _ => rfl)))
  (pss_cons (ps_set (i := 5) sc_law_row.nd rfl (Or.inl rfl) (pe_op op_fdiv (pv 2) pe_int))
  (pss_cons (ps_set (i := 2) sc_law_row.nd rfl (Or.inl rfl) (pe_op op_fdiv (pv 5) pe_int))
  (pss_cons (ps_set (i := 6) sc_law_row.nd rfl (Or.inl rfl) pe_str)
  (pss_cons (ps_for PassesOwn.never rfl (pi_range1 (by exact rfl) T.n_range (pa_cons (pv 3) pa_nil)) (pg_name (i := 7) sc_law_row.nd rfl (Or.inl rfl)) (pss_cons (ps_set (i := 6) sc_law_row.nd rfl (Or.inl rfl) (pe_op op_catS (pv 6) (pe_call F_law_letter (hr.mono (by decide)) (by exact rfl) T.g_law_letter k_law_letter b_law_letter .nil pass0 (pa_cons (pe_op op_add (pe_op op_mod (pv 5) pe_int) (pe_op op_mod (pv 2) (pv 4))) pa_nil))))
  (pss_one (ps_set (i := 2) sc_law_row.nd rfl (Or.inl rfl) (pe_op op_fdiv (pv 2) (pv 4))))))
  (pss_one (ps_ret (pv 6))))))))))))
theorem x_whenSet {b : Bool} {v v0 : V} {t : TT} {te : TE} {tu : TS} {D : Ends} {σ : L2.St} {H : Hp} {i : Nat} (h : Ans t σ H b) (h0 : σ[i]? = some (some v0)) (h1 : b = true → Val te σ H v) (k : tu D (σ.set i (some (if b = true then v else v0))) H) : tSeq (tIfS t (tAsg te (gName i)) tNext) tu D σ H := by
  refine x_when h (fun hb => y_set (h1 hb) ?_) (fun hb => ?_)
  · rw [if_pos hb] at k; exact k
  · rw [if_neg (by rw [hb]; decide)] at k
    have e : σ.set i (some v0) = σ := by
      apply List.ext_getElem?
      intro j
      rw [List.getElem?_set]
      by_cases q : i = j
      · subst q
        rw [if_pos rfl, if_pos (List.getElem?_eq_some_iff.mp h0).1, h0]
      · rw [if_neg q]
    rw [e] at k
    exact k
theorem r_law_row (T : Txt w K mg) (vs : List V) (H : Hp) (Q : VK) (E : XK) (h : sp_law_row K vs H Q E) : t_law_row K { nx := fun _ H' => Q .non H', rt := Q } (start ["_law_cell", "_law_most", "_law_number", "_law_many", "_law_wide", "_law_first", "_law_row_here", "_law_k"] vs) H := by
  obtain ⟨n, rfl, k⟩ := h
  refine x_setC (c_call (va_1 (val_var rfl)) ⟨n, rfl, fun z => ?_⟩)
  refine x_set (val_I (val_var rfl) val_c (by decide)) ?_
  refine x_whenSet (v0 := .int (z % 9)) (b := decide (z / 9 % 8 = 7)) (Ans.to (ans_te (val_eq (val_I (val_I (val_var rfl) val_c ⟨by decide, by decide⟩) val_c (by decide)) val_c rfl)) (decide_eq_decide.mpr ⟨fun q => V.int.inj q, fun q => by rw [q]⟩)) rfl (fun _ => val_I (val_I (val_var rfl) val_c ⟨by decide, by decide⟩) (val_I0 (val_var rfl) val_c) (by decide)) ?_
  obtain ⟨many, hm, hmany⟩ : ∃ m : Nat, m ≤ 24 ∧ (if decide (z / 9 % 8 = 7) = true then V.int (z / 72 % (24 + 1)) else .int (z % 9)) = .int (m : Nat) := by
    split
    · exact ⟨(z / 72 % (24 + 1)).toNat, by omega, by congr 1; omega⟩
    · exact ⟨(z % 9).toNat, by omega, by congr 1; omega⟩
  rw [hmany]
  refine x_set (val_I (val_var rfl) val_c ⟨by decide, by decide⟩) ?_
  obtain ⟨j, hj6, hj⟩ : ∃ j : Nat, j < 6 ∧ z / 1800 % 6 = (j : Int) := ⟨(z / 1800 % 6).toNat, by omega, by omega⟩
  obtain ⟨w, hw1, hw2, hw⟩ : ∃ w : Int, 1 ≤ w ∧ w ≤ 26 ∧ ([1, 2, 2, 3, 4, 26] : List Int)[j]? = some w := by
    have : j = 0 ∨ j = 1 ∨ j = 2 ∨ j = 3 ∨ j = 4 ∨ j = 5 := by omega
    rcases this with rfl | rfl | rfl | rfl | rfl | rfl <;> exact ⟨_, by decide, by decide, rfl⟩
  refine x_setC ⟨by show 6 ≤ sizeLine; decide, fun p hp => (val_I (val_var rfl) val_c (by decide)) _ ⟨p, _, _, .int w, rfl, rfl, SqL.of upd_same, at_nat hj (map_get (f := V.int) hw), ?_⟩⟩
  have e1 := Ex.new (o := .lst ([1, 2, 2, 3, 4, 26].map V.int)) hp
  show tSeq _ _ _ _ (upd H p (.lst ([1, 2, 2, 3, 4, 26].map V.int)))
  generalize upd H p (.lst ([1, 2, 2, 3, 4, 26].map V.int)) = H1 at e1 ⊢
  refine x_set (val_I (val_var rfl) val_c ⟨by decide, by decide⟩) (x_set (val_I (val_var rfl) val_c ⟨by decide, by decide⟩) (x_set (v := .str (tx [])) val_emp ?_))
  refine x_forR (n := many) (val_var rfl) (by omega) (fun m σ' H' => H' = H1 ∧ ∃ (u : Int) (l : List Nat) (z7 : Option V), σ' = [some (.int n), some (.int 24), some (.int u), some (.int (many : Nat)), some (.int w), some (.int (z / 1800 / 6)), some (.str (tx l)), z7] ∧ l.length = m ∧ ∀ c ∈ l, isLt c) ⟨rfl, _, [], none, rfl, rfl, fun c hc => by cases hc⟩ ?_ ?_
  · rintro m σ' H' hm2 ⟨rfl, u, l, z7, rfl, hl, hlt⟩
    refine x_setC ⟨_, rfl, ?_⟩
    refine (val_I0 (val_I (val_var rfl) val_c (by decide)) (val_I (val_var rfl) (val_var rfl) (by omega))) _ ⟨_, rfl, ⟨_, _, rfl, rfl, ?_, ?_⟩⟩
    · rw [tx_len, tx_len]; exact small5 (by simp only [List.length_cons, List.length_nil]; omega)
    rw [tx_app]
    refine y_set (val_I (val_var rfl) (val_var rfl) ⟨by omega, by omega⟩) ⟨rfl, _, _, _, rfl, by rw [List.length_append, hl]; rfl, fun c hc => ?_⟩
    rcases List.mem_append.mp hc with h | h
    · exact hlt c h
    · rw [List.mem_singleton.mp h]
      unfold isLt
      omega
  · rintro σ' H' ⟨rfl, u, l, z7, rfl, hl, hlt⟩
    exact x_ret (val_var rfl) (k _ l e1 ⟨by omega, hlt⟩)
theorem ok_law_row (T : Txt w K mg) : Df P w K mg base 2 (He.ga K "_law_row") ["_law_cell", "_law_most"] (sp_law_row K) :=
  df_of T.f_law_row sc_law_row (fun _ _ _ _ _ _ us hl => match us, hl with | [_, _], _ => rfl) (fun vs H Q E h => by
    obtain ⟨n, rfl, _⟩ := h
    rfl) (fun cdv A outer s H E hr => w_law_row T cdv A outer s H E hr) (fun vs H Q E h => r_law_row T vs H Q E h)
end
end Pk
namespace Pk
open PySem PySem.Spec
open PyProof.Rows L2
/-! ## _law_list -/
theorem sc_law_list : FnScope ["_law_row_here", "_law_cells", "_law_most", "_law_changes", "_law_at", "_law_many", "_law_cell", "_law_old_here", "_law_other", "_law_letter_here"] ["_law_row_here", "_law_cells", "_law_most"] (defScope s_law_list) := ⟨rfl, rfl, rfl, by decide +kernel, rfl, by decide +kernel, by decide +kernel⟩
def sp_law_list (K : PySem.W.Frag) : Sp := fun vs H Q _ => ∃ (S : Hp) (l : List Nat) (p : Addr) (ns : List Int), vs = [.str (tx l), .ref p, .int 24] ∧ Ex S H ∧ Plain l ∧ S p = some (.lst (ns.map V.int)) ∧ ns.length ≤ 1000 ∧ ∀ S' H' v' cs, Gw S H S' H' → At S' v' (eChs cs) → ChsOk cs → olds cs = l → Plain (news cs) → Q v' H'
def t_law_list (K : PySem.W.Frag) : TS := (tSeq (tAsg (tLst tNil) (gName 3))
  (tSeq (tAsg (tC (.int 0)) (gName 4))
  (tSeq (tAsg (tCB cLenS (tCons (tVar 0) tNil)) (gName 5))
  (tSeq (tFor (iList K (tVar 1)) (gName 6) (tIfS (tAnd (tTest (tOp oLt (tOp oMod (tVar 6) (tC (.int 8))) (tC (.int 6)))) (tTest (tOp oLt (tVar 4) (tCB cLenS (tCons (tVar 0) tNil))))) (tSeq (tAsg (tOp rIxS (tVar 0) (tVar 4)) (gName 7))
  (tSeq (tAsg (tCall (sp_law_letter K) [] E0 (tCons (tOp oAdd (tOp oAdd (tOp oSub (tCB cOrd (tCons (tVar 7) tNil)) (tCB cOrd (tCons (tC (.str "a")) tNil))) (tC (.int 1))) (tOp oMod (tOp oFdv (tVar 6) (tC (.int 8))) (tC (.int 25)))) tNil)) (gName 8))
  (tSeq (tAsg (tOp oAdd (tVar 4) (tC (.int 1))) (gName 4))
  (tSeq (tDrop (tBM K "list" rAppend (tVar 3) (tCons (tOp (rIxL K) (tLst (tCons (tTup (tCons (tC (.str "keep")) (tCons (tVar 7) tNil))) (tCons (tTup (tCons (tC (.str "change")) (tCons (tVar 7) (tCons (tVar 8) tNil)))) (tCons (tTup (tCons (tC (.str "out")) (tCons (tVar 7) tNil))) tNil)))) (tOp oFdv (tOp oMod (tVar 6) (tC (.int 8))) (tC (.int 2)))) tNil)))
  (tAsg (tOp oSub (tVar 5) (tCB cInt1 (tCons (tOp oGt (tOp oMod (tVar 6) (tC (.int 8))) (tC (.int 3))) tNil))) (gName 5)))))) (tIfS (tAnd (tTest (tOp oLt (tVar 5) (tVar 2))) (tTest (tOp oLt (tOp oSub (tOp oAdd (tCB (cLenL K) (tCons (tVar 3) tNil)) (tCB cLenS (tCons (tVar 0) tNil))) (tVar 4)) (tC (.int 48))))) (tSeq (tDrop (tBM K "list" rAppend (tVar 3) (tCons (tTup (tCons (tC (.str "in")) (tCons (tCall (sp_law_letter K) [] E0 (tCons (tOp oFdv (tVar 6) (tC (.int 8))) tNil)) tNil))) tNil)))
  (tAsg (tOp oAdd (tVar 5) (tC (.int 1))) (gName 5))) tNext)))
  (tRet (tOp rCat (tVar 3) (tLc (iStr (tSl rSlS (tVar 0) (tPart (tVar 4)) tNoPart)) (gName 9) tYes (tTup (tCons (tC (.str "keep")) (tCons (tVar 9) tNil))) [9])))))))
section
variable {P : Program} {w : World} {K : PySem.W.Frag} {mg : Str → Option Value} {base : Heap}
theorem w_law_list (T : Txt w K mg) (cdv : Value) (A : Around) (outer : List Env) (s : Shared) (H : Hp) (E : XK) (hr : Room 1 (A.deeper (envOfC "_law_list" (defScope s_law_list) s.heap.objs.size (He.ga K "_law_list") cdv))) :
    PSs (cxOf CX0 P w K mg base ["_law_row_here", "_law_cells", "_law_most", "_law_changes", "_law_at", "_law_many", "_law_cell", "_law_old_here", "_law_other", "_law_letter_here"] "_law_list" (defScope s_law_list) (He.ga K "_law_list") cdv A outer s H E).nox (defBody s_law_list) (t_law_list K) := by
  obtain ⟨⟨fd_law_letter, F_law_letter, b_law_letter⟩, k_law_letter⟩ := ok_law_letter (P := P) (base := base) T
  exact (pss_cons (ps_set (i := 3) sc_law_list.nd rfl (Or.inl rfl) (pe_lst pa_nil))
  (pss_cons (ps_set (i := 4) sc_law_list.nd rfl (Or.inl rfl) pe_int)
  (pss_cons (ps_set (i := 5) sc_law_list.nd rfl (Or.inl rfl) (pe_callB cl_lenS (by exact rfl) T.n_len PySem.boot_len (pa_cons (pv 0) pa_nil)))
  (pss_cons (ps_for PassesOwn.never rfl (pi_list (pv 1)) (pg_name (i := 6) sc_law_list.nd rfl (Or.inl rfl)) (pss_one (ps_if (PW.pt (pw_and (pt_cmpR op_lt (pe_op op_mod (pv 6) pe_int) pe_int (nomark _)) (pw_and1 (pt_cmpR op_lt (pv 4) (pe_callB cl_lenS (by exact rfl) T.n_len PySem.boot_len (pa_cons (pv 0) pa_nil)) (nomark _))))) (pss_cons (ps_set (i := 7) sc_law_list.nd rfl (Or.inl rfl) (pe_ix ix_str (pv 0) (pv 4) (fun _ _ => rfl)))
  (pss_cons (ps_set (i := 8) sc_law_list.nd rfl (Or.inl rfl) (pe_call F_law_letter (hr.mono (by decide)) (by exact rfl) T.g_law_letter k_law_letter b_law_letter .nil pass0 (pa_cons (pe_op op_add (pe_op op_add (pe_op op_sub (pe_callB cl_ord (by exact rfl) T.n_ord (by decide +kernel) (pa_cons (pv 7) pa_nil)) (pe_callB cl_ord (by exact rfl) T.n_ord (by decide +kernel) (pa_cons pe_str pa_nil))) pe_int) (pe_op op_mod (pe_op op_fdiv (pv 6) pe_int) pe_int)) pa_nil)))
  (pss_cons (ps_set (i := 4) sc_law_list.nd rfl (Or.inl rfl) (pe_op op_add (pv 4) pe_int))
  (pss_cons (ps_expr (pe_bm PySem.F.plainAttrs_list PySem.F.slot_list_append PySem.F.type_list_append mt_append (pv 3) (pa_cons (pe_ix ix_list (pe_lst (pa_cons (pe_tup (pa_cons pe_str (pa_cons (pv 7) pa_nil))) (pa_cons (pe_tup (pa_cons pe_str (pa_cons (pv 7) (pa_cons (pv 8) pa_nil)))) (pa_cons (pe_tup (pa_cons pe_str (pa_cons (pv 7) pa_nil))) pa_nil)))) (pe_op op_fdiv (pe_op op_mod (pv 6) pe_int) pe_int) (fun _ _ => rfl)) pa_nil)))
  (pss_one (ps_set (i := 5) sc_law_list.nd rfl (Or.inl rfl) (pe_op op_sub (pv 5) (pe_callTy cl_int1 (by exact rfl) T.n_int (by decide +kernel) (pa_cons (pe_cmpR op_gt (pe_op op_mod (pv 6) pe_int) pe_int (nomark _)) pa_nil))))))))) (pss_one (ps_if (PW.pt (pw_and (pt_cmpR op_lt (pv 5) (pv 2) (nomark _)) (pw_and1 (pt_cmpR op_lt (pe_op op_sub (pe_op op_add (pe_callB cl_lenL (by exact rfl) T.n_len PySem.boot_len (pa_cons (pv 3) pa_nil)) (pe_callB cl_lenS (by exact rfl) T.n_len PySem.boot_len (pa_cons (pv 0) pa_nil))) (pv 4)) pe_int (nomark _))))) (pss_cons (ps_expr (pe_bm PySem.F.plainAttrs_list PySem.F.slot_list_append PySem.F.type_list_append mt_append (pv 3) (pa_cons (pe_tup (pa_cons pe_str (pa_cons (pe_call F_law_letter (hr.mono (by decide)) (by exact rfl) T.g_law_letter k_law_letter b_law_letter .nil pass0 (pa_cons (pe_op op_fdiv (pv 6) pe_int) pa_nil)) pa_nil))) pa_nil)))
  (pss_one (ps_set (i := 5) sc_law_list.nd rfl (Or.inl rfl) (pe_op op_add (pv 5) pe_int)))) pss_nil)))))
  (pss_one (ps_ret (pe_op op_cat (pv 3) (pe_lc (own := [("_law_letter_here", 9)]) (g := (gName 9)) (tt := tYes) rfl sc_law_list.nd (pi_str (pe_slice sl_str (pv 0) (po_some (pv 4)) po_none)) (blkOk_by (N := ["_law_row_here", "_law_cells", "_law_most", "_law_changes", "_law_at", "_law_many", "_law_cell", "_law_old_here", "_law_other", "_law_letter_here"]) (sc := defScope s_law_list) (by decide +kernel)) (fun _ _ _ _ _ => (pg_name (i := 9) sc_law_list.nd rfl (Or.inl rfl))) (fun _ _ _ _ _ => pts_nil) (fun _ _ _ _ _ => (pe_tup (pa_cons pe_str (pa_cons (pv 9) pa_nil))))))))))))
theorem r_law_list (T : Txt w K mg) (vs : List V) (H : Hp) (Q : VK) (E : XK) (h : sp_law_list K vs H Q E) : t_law_list K { nx := fun _ H' => Q .non H', rt := Q } (start ["_law_row_here", "_law_cells", "_law_most", "_law_changes", "_law_at", "_law_many", "_law_cell", "_law_old_here", "_law_other", "_law_letter_here"] vs) H := by
  obtain ⟨S, l, p, ns, rfl, eS, ⟨zl, hl⟩, hp, zn, k⟩ := h
  refine x_setC (c_lst va_nil (by simp) fun q hq => ?_)
  have sq := eS.free hq
  refine x_set val_c (x_set (val_lenS (val_var rfl) (by omega)) ?_)
  refine x_forL (K := K) (a := p) (xs := ns.map V.int) (val_var rfl) (SqL.of ((Ex.new hq) _ _ (eS _ _ hp))) (fun n σ' H' => ∃ (S' : Hp) (ws : List V) (acc : List Ch) (at_ : Nat) (z6 z7 z8 z9 : Option V), σ' = [some (.str (tx l)), some (.ref p), some (.int 24), some (.ref q), some (.int (at_ : Int)), some (.int ((news acc).length + l.length - at_ : Int)), z6, z7, z8, z9] ∧ Gw S H S' H' ∧ S' q = none ∧ H' q = some (.lst ws) ∧ AtA S' ws (acc.map eCh) ∧ olds acc = l.take at_ ∧ at_ ≤ l.length ∧ (∀ c ∈ acc, c.ok) ∧ acc.length + l.length ≤ 48 + at_ ∧ (news acc).length + l.length ≤ 24 + at_)
    ⟨S, [], [], 0, none, none, none, none, by simp [L2.start, news], (Gw.refl eS).mut hq, sq, upd_same, .nil, rfl, Nat.zero_le _, (fun c hc => by cases hc), by simp only [List.length_nil]; omega, by simp [news]; omega⟩ (fun n σ' H' ⟨S', ws, acc, at_, z6, z7, z8, z9, _, g, _⟩ => SqL.of (g.i _ _ (g.s _ _ hp))) ?_ ?_
  · rintro n y σ' H' hy ⟨S', ws, acc, at_, z6, z7, z8, z9, rfl, g, sl, hw, hA, ho, hat, hok, hc1, hc2⟩
    rw [List.getElem?_map] at hy
    obtain ⟨x, hx, rfl⟩ := Option.map_eq_some_iff.mp hy
    have hwl := hA.lenM
    have m8 : Val (tOp oMod (tVar 6) (tC (.int 8))) [some (.str (tx l)), some (.ref p), some (.int 24), some (.ref q), some (.int (at_ : Int)), some (.int ((news acc).length + l.length - at_ : Int)), some (.int x), z7, z8, z9] H' (.int (x % 8)) := val_I (val_var rfl) val_c (by decide)
    refine y_if (ans_andW (a := decide (x % 8 < 6)) (b := decide (at_ < l.length)) (ans_te (val_I0 m8 val_c)) (fun _ => Ans.to (ans_te (val_I0 (val_var rfl) (val_lenS (val_var rfl) (by omega)))) (decide_eq_decide.mpr (by omega)))) (fun hb => ?_) (fun hb => ?_)
    · have hb : x % 8 < 6 ∧ at_ < l.length := by simpa using hb
      obtain ⟨hb1, hb2⟩ := hb
      obtain ⟨c, hcg⟩ : ∃ c, l[at_]? = some c := ⟨_, List.getElem?_eq_getElem hb2⟩
      have hcl := hl c (List.mem_of_getElem? hcg)
      have hct : l.take (at_ + 1) = l.take at_ ++ [c] := by rw [List.take_succ, hcg]; rfl
      refine x_set (val_ixS (val_var rfl) (val_var rfl) (by omega) (at_nat rfl hcg)) ?_
      have a_tx : ("a" : Str) = tx [97] := by decide +kernel
      refine x_setC (c_call (va_1 (val_I0 (val_I0 (val_I0 (val_ord (val_var rfl)) (val_ord (c := 97) (val_is val_c (by rw [a_tx])))) val_c) (val_I (val_I (val_var rfl) val_c ⟨by decide, by decide⟩) val_c (by decide)))) ⟨_, rfl, ?_⟩)
      obtain ⟨d, hd⟩ : ∃ d : Nat, 97 + (((c : Int) - ((97 : Nat) : Int) + 1 + x / 8 % 25) % 26).toNat = d := ⟨_, rfl⟩
      rw [hd]
      have hdl : isLt d := by unfold isLt; omega
      have hdc : d ≠ c := by unfold isLt at hcl; omega
      refine x_set (v := .int ((at_ + 1 : Nat) : Int)) (val_is (val_I0 (val_var rfl) val_c) (by congr 1)) ?_
      have tag : ∀ (R : VK) (j : Nat), x % 8 / 2 = (j : Int) → j < 3 → (∀ H2 S2 ws2, Gw S H S2 H2 → S2 q = none → H2 q = some (.lst ws2) → AtA S2 ws2 ((acc ++ [[Ch.kp c, Ch.cg c d, Ch.ou c].getD j (Ch.kp c)]).map eCh) → R .non H2) → (tBM K "list" rAppend (tVar 3) (tCons (tOp (rIxL K) (tLst (tCons (tTup (tCons (tC (.str "keep")) (tCons (tVar 7) tNil))) (tCons (tTup (tCons (tC (.str "change")) (tCons (tVar 7) (tCons (tVar 8) tNil)))) (tCons (tTup (tCons (tC (.str "out")) (tCons (tVar 7) tNil))) tNil)))) (tOp oFdv (tOp oMod (tVar 6) (tC (.int 8))) (tC (.int 2)))) tNil)) [some (.str (tx l)), some (.ref p), some (.int 24), some (.ref q), some (.int ((at_ + 1 : Nat) : Int)), some (.int ((news acc).length + l.length - at_ : Int)), some (.int x), some (.str (tx [c])), some (.str (tx [d])), z9] H' R := fun R j hj hj3 kR => by
        refine bm_C (val_var rfl) hw (cons_C (op_C (lst_C (cons_C (c_tup (va_2 val_c (val_var rfl)) (by simp) fun p1 h1 => cons_C (c_tup (va_3 val_c (val_var rfl) (val_var rfl)) (by simp) fun p2 h2 => cons_C (c_tup (va_2 val_c (val_var rfl)) (by simp) fun p3 h3 => ⟨by show 3 ≤ sizeLine; decide, fun lp hlp => ?_⟩)))))))
        have g1 := g.put (o := .tup (vCh (.kp c))) h1
        have g2 := g1.put (o := .tup (vCh (.cg c d))) h2
        have g3 := g2.put (o := .tup (vCh (.ou c))) h3
        have g4 := g3.mut (o := .lst [.ref p1, .ref p2, .ref p3]) hlp
        have f1 := g1.freeS h2
        have f2 := g2.freeS h3
        have h2 : upd H' p1 (.tup (vCh (.kp c))) p2 = none := h2
        have h3 : upd (upd H' p1 (.tup (vCh (.kp c)))) p2 (.tup (vCh (.cg c d))) p3 = none := h3
        have w1 := upd_get (o := .tup (vCh (.kp c))) hw h1
        have w2 := upd_get (o := .tup (vCh (.cg c d))) w1 h2
        have w3 := upd_get (o := .tup (vCh (.ou c))) w2 h3
        have w4 := upd_get (o := .lst [.ref p1, .ref p2, .ref p3]) w3 hlp
        have s3 : upd (upd (upd S' p1 (.tup (vCh (.kp c)))) p2 (.tup (vCh (.cg c d)))) p3 (.tup (vCh (.ou c))) q = none := by
          rw [upd_ne (fun z => by rw [← z, w2] at h3; cases h3), upd_ne (fun z => by rw [← z, w1] at h2; cases h2), upd_ne (fun z => by rw [← z, hw] at h1; cases h1)]
          exact sl
        have k1 : upd (upd (upd S' p1 (.tup (vCh (.kp c)))) p2 (.tup (vCh (.cg c d)))) p3 (.tup (vCh (.ou c))) p1 = some (.tup (vCh (.kp c))) := upd_get (upd_get upd_same f1) f2
        have k2 : upd (upd (upd S' p1 (.tup (vCh (.kp c)))) p2 (.tup (vCh (.cg c d)))) p3 (.tup (vCh (.ou c))) p2 = some (.tup (vCh (.cg c d))) := upd_get upd_same f2
        have k3 : upd (upd (upd S' p1 (.tup (vCh (.kp c)))) p2 (.tup (vCh (.cg c d)))) p3 (.tup (vCh (.ou c))) p3 = some (.tup (vCh (.ou c))) := upd_same
        have eS2 : Ex S' (upd (upd (upd S' p1 (.tup (vCh (.kp c)))) p2 (.tup (vCh (.cg c d)))) p3 (.tup (vCh (.ou c)))) := ((Ex.new (g.freeS h1)).trans (Ex.new f1)).trans (Ex.new f2)
        generalize upd (upd (upd S' p1 (.tup (vCh (.kp c)))) p2 (.tup (vCh (.cg c d)))) p3 (.tup (vCh (.ou c))) = S2 at g4 s3 k1 k2 k3 eS2
        have fin : ∀ pj cj, [V.ref p1, V.ref p2, V.ref p3][j]? = some (.ref pj) → [Ch.kp c, Ch.cg c d, Ch.ou c].getD j (Ch.kp c) = cj → S2 pj = some (.tup (vCh cj)) → tOp oFdv (tOp oMod (tVar 6) (tC (.int 8))) (tC (.int 2)) [some (.str (tx l)), some (.ref p), some (.int 24), some (.ref q), some (.int ((at_ + 1 : Nat) : Int)), some (.int ((news acc).length + l.length - at_ : Int)), some (.int x), some (.str (tx [c])), some (.str (tx [d])), z9] (upd (upd (upd (upd H' p1 (.tup (vCh (.kp c)))) p2 (.tup (vCh (.cg c d)))) p3 (.tup (vCh (.ou c)))) lp (.lst [.ref p1, .ref p2, .ref p3])) fun y H3 => rIxL K (.ref lp) y H3 fun v H4 => tNil [some (.str (tx l)), some (.ref p), some (.int 24), some (.ref q), some (.int ((at_ + 1 : Nat) : Int)), some (.int ((news acc).length + l.length - at_ : Int)), some (.int x), some (.str (tx [c])), some (.str (tx [d])), z9] H4 fun vs H5 => rAppend (.ref q) (v :: vs) H5 R := fun pj cj e1 e2 e3 => by
          refine (val_I (val_I (val_var rfl) val_c (by decide)) val_c ⟨by decide, by decide⟩) _ ⟨lp, _, _, _, rfl, rfl, SqL.of upd_same, at_nat hj e1, ?_⟩
          refine ⟨q, ws, _, rfl, rfl, w4, small6 (by omega), kR _ S2 (ws ++ [.ref pj]) (g4.set hq s3) s3 upd_same ?_⟩
          rw [e2]
          exact (hA.mono eS2).snocM (At.ch e3)
        have h3j : j = 0 ∨ j = 1 ∨ j = 2 := by omega
        rcases h3j with rfl | rfl | rfl
        · exact fin p1 (.kp c) rfl rfl k1
        · exact fin p2 (.cg c d) rfl rfl k2
        · exact fin p3 (.ou c) rfl rfl k3
      obtain ⟨j, hj3, hj⟩ : ∃ j : Nat, j < 3 ∧ x % 8 / 2 = (j : Int) := ⟨(x % 8 / 2).toNat, by omega, by omega⟩
      refine x_dropC (tag _ j hj hj3 fun H2 S2 ws2 g2 s2 w2 A2 => ?_)
      refine y_set (val_I0 (val_var rfl) (val_intB (val_I0 (val_I (val_var rfl) val_c (by decide)) val_c))) ?_
      obtain ⟨cj, e1, e2, e3, e4⟩ : ∃ cj, [Ch.kp c, Ch.cg c d, Ch.ou c].getD j (Ch.kp c) = cj ∧ cj.ok ∧ cj.ol = [c] ∧ (cj.nw.length : Int) + (if decide ((3 : Int) < x % 8) = true then 1 else 0) = 1 := by
        have h3j : j = 0 ∨ j = 1 ∨ j = 2 := by omega
        rcases h3j with rfl | rfl | rfl
        · exact ⟨.kp c, rfl, hcl, rfl, by rw [if_neg (by simp; omega)]; rfl⟩
        · exact ⟨.cg c d, rfl, ⟨hcl, hdl, fun z => hdc z.symm⟩, rfl, by rw [if_neg (by simp; omega)]; rfl⟩
        · exact ⟨.ou c, rfl, hcl, rfl, by rw [if_pos (by simp; omega)]; rfl⟩
      rw [e1] at A2
      have en : (news (acc ++ [cj])).length = (news acc).length + cj.nw.length := by rw [news_app, List.length_append]; simp [news]
      have e4' : ((news acc).length + l.length - at_ : Int) - (if decide ((3 : Int) < x % 8) = true then 1 else 0) = ((news (acc ++ [cj])).length : Int) + l.length - ((at_ + 1 : Nat) : Int) := by rw [en]; omega
      rw [e4']
      refine ⟨S2, ws2, acc ++ [cj], at_ + 1, _, _, _, _, rfl, g2, s2, w2, A2, by rw [olds_app, ho, hct, olds_cons, e3]; rfl, hb2, fun y hy => ?_, by rw [List.length_append, List.length_singleton]; omega, ?_⟩
      · rcases List.mem_append.mp hy with h | h
        · exact hok y h
        · rw [List.mem_singleton.mp h]; exact e2
      · rw [en]
        split at e4 <;> omega
    · have lenq : Val (tCB (cLenL K) (tCons (tVar 3) tNil)) [some (.str (tx l)), some (.ref p), some (.int 24), some (.ref q), some (.int (at_ : Int)), some (.int ((news acc).length + l.length - at_ : Int)), some (.int x), z7, z8, z9] H' (.int (ws.length : Nat)) := val_lenL (val_var rfl) hw
      refine y_when (ans_andW (ans_te (val_I0 (val_var rfl) (val_var rfl))) (fun _ => ans_te (val_I0 (val_I0 (val_I0 lenq (val_lenS (val_var rfl) (by omega))) (val_var rfl)) val_c))) (fun hb => ?_) (fun hb => ⟨S', ws, acc, at_, _, _, _, _, rfl, g, sl, hw, hA, ho, hat, hok, hc1, hc2⟩)
      have hb : ((news acc).length + l.length - at_ : Int) < 24 ∧ (ws.length : Int) + (l.length : Int) - (at_ : Int) < 48 := by simpa using hb
      refine x_dropC (bm_C (val_var rfl) hw (cons_C (cons_V val_c (cons_C (c_call (va_1 (val_I (val_var rfl) val_c ⟨by decide, by decide⟩)) ⟨_, rfl, ⟨by show 2 ≤ sizeLine; decide, fun p1 h1 => ?_⟩⟩)))))
      obtain ⟨d, hd⟩ : ∃ d : Nat, 97 + (x / 8 % 26).toNat = d := ⟨_, rfl⟩
      rw [hd]
      have hdl : isLt d := by unfold isLt; omega
      have g1 := g.put (o := .tup (vCh (.im d))) h1
      have w1 := upd_get (o := .tup (vCh (.im d))) hw h1
      have s1 : upd S' p1 (.tup (vCh (.im d))) q = none := by rw [upd_ne (fun z => by rw [← z, hw] at h1; cases h1)]; exact sl
      refine ⟨q, ws, _, rfl, rfl, w1, small6 (by omega), ?_⟩
      have en : (news (acc ++ [Ch.im d])).length = (news acc).length + 1 := by rw [news_app, List.length_append]; rfl
      refine y_set (v := .int (((news (acc ++ [Ch.im d])).length : Int) + l.length - (at_ : Int))) (val_is (val_I0 (val_var rfl) val_c) (by rw [en]; congr 1; omega)) ?_
      refine ⟨_, ws ++ [.ref p1], acc ++ [.im d], at_, _, _, _, _, rfl, g1.set hq s1, s1, upd_same, (hA.mono (Ex.new (g.freeS h1))).snocM (At.ch upd_same), by rw [olds_app, ho]; exact List.append_nil _, hat, fun y hy => ?_, by rw [List.length_append, List.length_singleton]; omega, by rw [en]; omega⟩
      rcases List.mem_append.mp hy with h | h
      · exact hok y h
      · rw [List.mem_singleton.mp h]; exact hdl
  · rintro σ' H' ⟨S', ws, acc, at_, z6, z7, z8, z9, rfl, g, sl, hw, hA, ho, hat, hok, hc1, hc2⟩
    have hwl := hA.lenM
    have ecut : cutS (tx l) (some (at_ : Int)) none = tx (l.drop at_) := by
      unfold cutS
      rw [HT.sIx_nat, HT.sIx_none, tx_list, tx_len, drop_min, List.take_of_length_le (by rw [List.length_drop]; omega)]
      rfl
    refine x_retC (op_C ((val_var rfl) _ (c_tlc (S := S') (H := H') (J := Its (tx (l.drop at_))) (fun R r => ⟨_, rfl, _, rfl, _, rfl, tx l, rfl, by rw [tx_len]; exact small5 (by omega), tx (l.drop at_), by rw [ecut], r⟩) (walk_str (z := tx (l.drop at_))) (fun n S acc2 => AtA S acc2 (((l.drop at_).take n).map fun c => eCh (.kp c)) ∧ acc2.length = n) g.i (fun _ _ => trivial) ⟨.nil, rfl⟩ (fun n S2 H2 acc2 x H'' R L hk g2 hF hy kR kL => ?_) (fun D S2 H2 acc2 hF g2 sD hD eD => ?_))))
    · obtain ⟨rfl, c, hc, rfl⟩ := hy
      rw [tx_at] at hc
      rw [tx_size, List.length_drop] at hk
      refine ⟨rfl, c_yes (te := tTup _) (c_tup (va_2 val_c (val_var rfl)) (by simp) fun u hu => kR _ (upd S2 u (.tup (vCh (.kp c)))) _ ((Gw.refl g2.i).put hu) ⟨?_, by rw [List.length_append, hF.2]; rfl⟩ (by omega))⟩
      rw [List.take_succ, hc, List.map_append]
      exact (hF.1.mono (Ex.new (g2.freeS hu))).snoc (At.ch (c := .kp c) upd_same)
    · obtain ⟨hF, hF2⟩ := hF
      rw [tx_size, List.length_drop] at hF2
      rw [tx_size, List.take_of_length_le (Nat.le_refl _)] at hF
      refine ⟨q, D, ws, acc2, rfl, rfl, g2.h _ _ hw, eD, small5 (by omega), fun r hr => ?_⟩
      have g3 := (g.trans g2).put (o := .lst (ws ++ acc2)) hr
      have hall : AtA S2 (ws ++ acc2) ((acc ++ (l.drop at_).map Ch.kp).map eCh) := by
        rw [List.map_append, List.map_map]
        exact (hA.mono g2.s).app hF
      have o2 : olds ((l.drop at_).map Ch.kp) = l.drop at_ := by
        generalize l.drop at_ = m
        induction m with
        | nil => rfl
        | cons x r ih => rw [List.map_cons, olds_cons, ih]; rfl
      have n2 : news ((l.drop at_).map Ch.kp) = l.drop at_ := by
        generalize l.drop at_ = m
        induction m with
        | nil => rfl
        | cons x r ih => rw [List.map_cons, news_cons, ih]; rfl
      have okall : ∀ c ∈ acc ++ (l.drop at_).map Ch.kp, c.ok := fun c hc => by
        rcases List.mem_append.mp hc with h | h
        · exact hok c h
        · obtain ⟨y, hy, rfl⟩ := List.mem_map.mp h
          exact hl y (List.mem_of_mem_drop hy)
      refine k _ _ _ (acc ++ (l.drop at_).map Ch.kp) g3 (.lst upd_same (hall.mono (Ex.new ((g.trans g2).freeS hr)))) ⟨?_, okall⟩ ?_ ⟨?_, ?_⟩
      · rw [List.length_append, List.length_map, List.length_drop]; omega
      · rw [olds_app, ho, o2, List.take_append_drop]
      · rw [news_app, n2, List.length_append, List.length_drop]; omega
      · exact news_ok okall
theorem ok_law_list (T : Txt w K mg) : Df P w K mg base 2 (He.ga K "_law_list") ["_law_row_here", "_law_cells", "_law_most"] (sp_law_list K) :=
  df_of T.f_law_list sc_law_list (fun _ _ _ _ _ _ us hl => match us, hl with | [_, _, _], _ => rfl) (fun vs H Q E h => by
    obtain ⟨S, l, p, ns, rfl, _⟩ := h
    rfl) (fun cdv A outer s H E hr => w_law_list T cdv A outer s H E hr) (fun vs H Q E h => r_law_list T vs H Q E h)
end
end Pk
namespace Pk
open PySem PySem.Spec
open PyProof.Rows L2
/-! ## _law_new -/
theorem sc_law_new : FnScope ["_law_changes", "_law_change"] ["_law_changes"] (defScope s_law_new) := ⟨rfl, rfl, rfl, by decide +kernel, rfl, by decide +kernel, by decide +kernel⟩
def sp_law_new (K : PySem.W.Frag) : Sp := fun vs H Q _ => ∃ (S : Hp) (v : V) (cs : List Ch), vs = [v] ∧ Ex S H ∧ At S v (eChs cs) ∧ cs.length ≤ 1000 ∧ ∀ H', Ex H H' → Q (.str (tx (news cs))) H'
def t_law_new (K : PySem.W.Frag) : TS := (tRet (tM1 (cJoin K) (tC (.str "")) (tLc (iList K (tVar 0)) (gName 1) (tTest (tOp rNe (tOp (rIxT K) (tVar 1) (tC (.int 0))) (tC (.str "out")))) (tOp (rIxT K) (tVar 1) (tUn oNeg (tC (.int 1)))) [1])))
section
variable {P : Program} {w : World} {K : PySem.W.Frag} {mg : Str → Option Value} {base : Heap}
theorem w_law_new (T : Txt w K mg) (cdv : Value) (A : Around) (outer : List Env) (s : Shared) (H : Hp) (E : XK) (hr : Room 0 (A.deeper (envOfC "_law_new" (defScope s_law_new) s.heap.objs.size (He.ga K "_law_new") cdv))) :
    PSs (cxOf CX0 P w K mg base ["_law_changes", "_law_change"] "_law_new" (defScope s_law_new) (He.ga K "_law_new") cdv A outer s H E).nox (defBody s_law_new) (t_law_new K) := by
  exact (pss_one (ps_ret (pe_join pe_str (pe_lc (own := [("_law_change", 1)]) (g := (gName 1)) (tt := (tTest (tOp rNe (tOp (rIxT K) (tVar 1) (tC (.int 0))) (tC (.str "out"))))) rfl sc_law_new.nd (pi_list (pv 0)) (blkOk_by (N := ["_law_changes", "_law_change"]) (sc := defScope s_law_new) (by decide +kernel)) (fun _ _ _ _ _ => (pg_name (i := 1) sc_law_new.nd rfl (Or.inl rfl))) (fun _ _ _ _ _ => (pts_one (pt_cmpR op_ne (pe_ix ix_tup (pv 1) pe_int (fun _ _ => rfl)) pe_str (nomark _)))) (fun _ _ _ _ _ => (pe_ix ix_tup (pv 1) (pe_un un_neg pe_int) (fun _ _ => rfl)))))))
def keepsOf_nw (cs : List Ch) : List (List Nat) := (cs.map Ch.nw).filter fun l => l ≠ []
theorem keepsOf_nw_len (cs : List Ch) : (keepsOf_nw cs).length ≤ cs.length := by
  have h := List.length_filter_le (fun l : List Nat => decide (l ≠ [])) (cs.map Ch.nw)
  rw [List.length_map] at h
  exact h
theorem keepsOf_nw_fl (cs : List Ch) : (keepsOf_nw cs).flatten = news cs := by
  induction cs with
  | nil => rfl
  | cons c r ih =>
    rw [news_cons, ← ih]
    unfold keepsOf_nw
    rw [List.map_cons, List.filter_cons]
    by_cases e : c.nw = []
    · rw [if_neg (by simp [e]), e]; rfl
    · rw [if_pos (by simp [e]), List.flatten_cons]
theorem keepsOf_nw_succ (cs : List Ch) (n : Nat) (c : Ch) (h : cs[n]? = some c) : keepsOf_nw (cs.take (n + 1)) = keepsOf_nw (cs.take n) ++ (if c.nw = [] then [] else [c.nw]) := by
  rw [List.take_succ, h]
  unfold keepsOf_nw
  rw [List.map_append, List.filter_append]
  refine congrArg _ ?_
  cases c <;> rfl
theorem r_law_new (T : Txt w K mg) (vs : List V) (H : Hp) (Q : VK) (E : XK) (h : sp_law_new K vs H Q E) : t_law_new K { nx := fun _ H' => Q .non H', rt := Q } (start ["_law_changes", "_law_change"] vs) H := by
  obtain ⟨S, v, cs, rfl, eS, hv, hz, k⟩ := h
  obtain ⟨p, vs, rfl, hp, ha⟩ := hv.chs_
  have hn := ha.lenM
  refine x_retC ⟨⟨_, rfl⟩, c_tlc (S := S) (fun R r => ⟨_, rfl, p, rfl, ⟨vs, SqL.of (eS _ _ hp)⟩, r⟩) (walk_list (K := K) (a := p) (xs := vs)) (fun n S acc => acc = (keepsOf_nw (cs.take n)).map fun l => V.str (tx l)) eS (fun H' e => SqL.of (e _ _ hp)) rfl (fun n S' H' acc x H'' R L hk g1 hF hy kR kL => ?_) (fun D S' H' acc hF g1 sD hD eD => ?_)⟩
  · obtain ⟨rfl, hx⟩ := hy
    obtain ⟨c, hcn, hat⟩ := ha.getM hx
    obtain ⟨q, rfl, hq⟩ := hat.ch_
    have hq' := g1.i _ _ (g1.s _ _ hq)
    have hl : acc.length < 100000 := by
      rw [hF, List.length_map]
      have h1 := keepsOf_nw_len (cs.take n)
      rw [List.length_take] at h1
      omega
    have et : (keepsOf_nw (cs.take (n + 1))).map (fun l => V.str (tx l)) = acc ++ (if c.nw = [] then [] else [c.nw]).map fun l => V.str (tx l) := by rw [keepsOf_nw_succ cs n c hcn, List.map_append, hF]
    cases c with
    | kp a => exact ⟨rfl, c_test (b := true) (Ans.to (ans_te (val_ne (val_ixT (val_var rfl) val_c hq' at_0) val_c rfl)) (by rw [decV ne_ko]; rfl)) (fun _ => (val_ixT (val_var rfl) (val_neg val_c) hq' (at_neg1 rfl)) R (kR _ S' _ (Gw.refl g1.i) et.symm hl)) (fun z => by cases z)⟩
    | cg a b => exact ⟨rfl, c_test (b := true) (Ans.to (ans_te (val_ne (val_ixT (val_var rfl) val_c hq' at_0) val_c rfl)) (by rw [decV ne_co]; rfl)) (fun _ => (val_ixT (val_var rfl) (val_neg val_c) hq' (at_neg1 rfl)) R (kR _ S' _ (Gw.refl g1.i) et.symm hl)) (fun z => by cases z)⟩
    | ou a => exact ⟨rfl, c_test (b := false) (Ans.to (ans_te (val_ne (val_ixT (val_var rfl) val_c hq' at_0) val_c rfl)) (by rw [decT]; rfl)) (fun z => by cases z) (fun _ => kL S' _ (Gw.refl g1.i) (et.trans (List.append_nil _)).symm)⟩
    | im a => exact ⟨rfl, c_test (b := true) (Ans.to (ans_te (val_ne (val_ixT (val_var rfl) val_c hq' at_0) val_c rfl)) (by rw [decV ne_io]; rfl)) (fun _ => (val_ixT (val_var rfl) (val_neg val_c) hq' (at_neg1 rfl)) R (kR _ S' _ (Gw.refl g1.i) et.symm hl)) (fun z => by cases z)⟩
  · refine c_join (keepsOf_nw cs) ?_ ?_ ?_
    · rw [eD, hF, List.take_of_length_le (by omega)]
    · rw [keepsOf_nw_fl]; have := news_len cs; omega
    · rw [keepsOf_nw_fl]; exact k H' g1.h
theorem ok_law_new (T : Txt w K mg) : Df P w K mg base 1 (He.ga K "_law_new") ["_law_changes"] (sp_law_new K) :=
  df_of T.f_law_new sc_law_new (fun _ _ _ _ _ _ us hl => match us, hl with | [_], _ => rfl) (fun vs H Q E h => by
    obtain ⟨S, v, cs, rfl, _⟩ := h
    rfl) (fun cdv A outer s H E hr => w_law_new T cdv A outer s H E hr) (fun vs H Q E h => r_law_new T vs H Q E h)
end
end Pk
namespace Pk
open PySem PySem.Spec
open PyProof.Rows L2
/-! ## _law_parted -/
theorem sc_law_parted : FnScope ["_law_row_here", "_law_letter_here"] ["_law_row_here"] (defScope s_law_parted) := ⟨rfl, rfl, rfl, by decide +kernel, rfl, by decide +kernel, by decide +kernel⟩
def sp_law_parted (K : PySem.W.Frag) : Sp := fun vs H Q _ => ∃ (l : List Nat), vs = [.str (tx l)] ∧ l.length ≤ 1000 ∧ ∀ H', Ex H H' → Q (.str (tx (part l))) H'
def t_law_parted (K : PySem.W.Frag) : TS := (tRet (tM1 (cJoin K) (tC (.str "")) (tLc (iStr (tVar 0)) (gName 1) tYes (tOp oCatS (tC (.str ".")) (tVar 1)) [1])))
section
variable {P : Program} {w : World} {K : PySem.W.Frag} {mg : Str → Option Value} {base : Heap}
theorem w_law_parted (T : Txt w K mg) (cdv : Value) (A : Around) (outer : List Env) (s : Shared) (H : Hp) (E : XK) (hr : Room 0 (A.deeper (envOfC "_law_parted" (defScope s_law_parted) s.heap.objs.size (He.ga K "_law_parted") cdv))) :
    PSs (cxOf CX0 P w K mg base ["_law_row_here", "_law_letter_here"] "_law_parted" (defScope s_law_parted) (He.ga K "_law_parted") cdv A outer s H E).nox (defBody s_law_parted) (t_law_parted K) := by
  exact (pss_one (ps_ret (pe_join pe_str (pe_lc (own := [("_law_letter_here", 1)]) (g := (gName 1)) (tt := tYes) rfl sc_law_parted.nd (pi_str (pv 0)) (blkOk_by (N := ["_law_row_here", "_law_letter_here"]) (sc := defScope s_law_parted) (by decide +kernel)) (fun _ _ _ _ _ => (pg_name (i := 1) sc_law_parted.nd rfl (Or.inl rfl))) (fun _ _ _ _ _ => pts_nil) (fun _ _ _ _ _ => (pe_op op_catS pe_str (pv 1)))))))
theorem r_law_parted (T : Txt w K mg) (vs : List V) (H : Hp) (Q : VK) (E : XK) (h : sp_law_parted K vs H Q E) : t_law_parted K { nx := fun _ H' => Q .non H', rt := Q } (start ["_law_row_here", "_law_letter_here"] vs) H := by
  obtain ⟨l, rfl, hz, k0⟩ := h
  have e1 := Ex.refl H
  have k := k0
  refine x_retC ⟨⟨_, rfl⟩, c_tlc (fun R r => ⟨_, rfl, tx l, rfl, r⟩) walk_str (fun n S acc => acc = (l.take n).map fun c => V.str (tx [46, c])) (Ex.refl H) (fun _ _ => trivial) rfl (fun n S' H' acc x H'' R L hn g1 hF hy kR kL => ?_) (fun D S' H' acc hF g1 sD hD eD => ?_)⟩
  · obtain ⟨rfl, c, hc, rfl⟩ := hy
    rw [tx_at] at hc
    refine ⟨rfl, c_yes ?_⟩
    refine val_catS (a := [46]) (b := [c]) val_dot (val_var rfl) (by simp) R ?_
    refine kR _ S' H'' (Gw.refl g1.i) ?_ ?_
    · rw [hF, List.take_succ, hc, List.map_append]
      rfl
    · rw [hF, List.length_map, List.length_take]
      omega
  · refine ⟨"", D, (l.map fun c => [46, c]).map tx, rfl, rfl, .inl (SqL.of ?_), ?_, ?_⟩
    · rw [eD, hF, tx_size, List.take_length, List.map_map, List.map_map]
      rfl
    · rw [List.map_map]
      have e : (List.map ((fun x : Str => x.length) ∘ tx) (l.map fun c => [46, c])).sum + ((l.map fun c => [46, c]).map tx).length * ("" : Str).length = 2 * l.length := by
        have e0 : ("" : Str).length = 0 := by rw [empty_tx]; rfl
        rw [e0, Nat.mul_zero, Nat.add_zero]
        clear hz hF eD k k0
        induction l with
        | nil => rfl
        | cons c l ih =>
          rw [List.map_cons, List.map_cons, List.sum_cons, ih, List.length_cons]
          show (tx [46, c]).length + _ = _
          rw [tx_len]
          simp only [List.length_cons, List.length_nil]
          omega
      rw [e]
      omega
    · rw [join_tx]
      exact k H' (e1.trans g1.h)
theorem ok_law_parted (T : Txt w K mg) : Df P w K mg base 1 (He.ga K "_law_parted") ["_law_row_here"] (sp_law_parted K) :=
  df_of T.f_law_parted sc_law_parted (fun _ _ _ _ _ _ us hl => match us, hl with | [_], _ => rfl) (fun vs H Q E h => by
    obtain ⟨l, rfl, _⟩ := h
    rfl) (fun cdv A outer s H E hr => w_law_parted T cdv A outer s H E hr) (fun vs H Q E h => r_law_parted T vs H Q E h)
end
end Pk
namespace Pk
open PySem PySem.Spec
open PyProof.Rows L2
/-! ## _law_heaps -/
theorem sc_law_heaps : FnScope ["_law_side", "_law_top", "_law_found", "_law_row_here", "_law_i", "_law_below", "_law_j"] ["_law_side", "_law_top"] (defScope s_law_heaps) := ⟨rfl, rfl, rfl, by decide +kernel, rfl, by decide +kernel, by decide +kernel⟩
def sp_law_heaps (K : PySem.W.Frag) : Sp := fun vs H Q _ => ∃ (S : Hp) (a b : List Nat), vs = [.str (tx a), .str (tx b)] ∧ Ex S H ∧ a.length ≤ 48 ∧ b.length ≤ 48 ∧ ∀ S' H' v', Gw S H S' H' → At S' v' (eHps (hps a b)) → Q v' H'
def t_law_heaps (K : PySem.W.Frag) : TS := (tSeq (tAsg (tLst tNil) (gName 2))
  (tSeq (tAsg (tOp rRep (tLst (tCons (tC (.int 0)) tNil)) (tOp oAdd (tCB cLenS (tCons (tVar 1) tNil)) (tC (.int 1)))) (gName 3))
  (tSeq (tFor (iRng1 (tCons (tCB cLenS (tCons (tVar 0) tNil)) tNil)) (gName 4) (tSeq (tAsg (tLst (tCons (tC (.int 0)) tNil)) (gName 5))
  (tSeq (tFor (iRng1 (tCons (tCB cLenS (tCons (tVar 1) tNil)) tNil)) (gName 6) (tSeq (tDrop (tBM K "list" rAppend (tVar 5) (tCons (tCB cMax2 (tCons (tOp (rIxL K) (tVar 3) (tOp oAdd (tVar 6) (tC (.int 1)))) (tCons (tOp (rIxL K) (tVar 5) (tVar 6)) tNil))) tNil)))
  (tIfS (tTest (tOp rEq (tOp rIxS (tVar 0) (tVar 4)) (tOp rIxS (tVar 1) (tVar 6)))) (tSeq (tAsg (tOp oAdd (tOp (rIxL K) (tVar 3) (tVar 6)) (tC (.int 1))) (gSub (tVar 5) (tOp oAdd (tVar 6) (tC (.int 1))) rSetL))
  (tSeq (tIfS (tTest (tOp rEq (tOp (rIxL K) (tVar 3) (tVar 6)) (tCB (cLenL K) (tCons (tVar 2) tNil)))) (tDrop (tBM K "list" rAppend (tVar 2) (tCons (tLst tNil) tNil))) tNext)
  (tDrop (tBM K "list" rAppend (tOp (rIxL K) (tVar 2) (tOp (rIxL K) (tVar 3) (tVar 6))) (tCons (tTup (tCons (tVar 4) (tCons (tVar 6) tNil))) tNil))))) tNext)))
  (tAsg (tVar 5) (gName 3)))))
  (tRet (tVar 2)))))
section
variable {P : Program} {w : World} {K : PySem.W.Frag} {mg : Str → Option Value} {base : Heap}
theorem w_law_heaps (T : Txt w K mg) (cdv : Value) (A : Around) (outer : List Env) (s : Shared) (H : Hp) (E : XK) (hr : Room 0 (A.deeper (envOfC "_law_heaps" (defScope s_law_heaps) s.heap.objs.size (He.ga K "_law_heaps") cdv))) :
    PSs (cxOf CX0 P w K mg base ["_law_side", "_law_top", "_law_found", "_law_row_here", "_law_i", "_law_below", "_law_j"] "_law_heaps" (defScope s_law_heaps) (He.ga K "_law_heaps") cdv A outer s H E).nox (defBody s_law_heaps) (t_law_heaps K) := by
  exact (pss_cons (ps_set (i := 2) sc_law_heaps.nd rfl (Or.inl rfl) (pe_lst pa_nil))
  (pss_cons (ps_set (i := 3) sc_law_heaps.nd rfl (Or.inl rfl) (pe_op op_rep (pe_lst (pa_cons pe_int pa_nil)) (pe_op op_add (pe_callB cl_lenS (by exact rfl) T.n_len PySem.boot_len (pa_cons (pv 1) pa_nil)) pe_int)))
  (pss_cons (ps_for PassesOwn.never rfl (pi_range1 (by exact rfl) T.n_range (pa_cons (pe_callB cl_lenS (by exact rfl) T.n_len PySem.boot_len (pa_cons (pv 0) pa_nil)) pa_nil)) (pg_name (i := 4) sc_law_heaps.nd rfl (Or.inl rfl)) (pss_cons (ps_set (i := 5) sc_law_heaps.nd rfl (Or.inl rfl) (pe_lst (pa_cons pe_int pa_nil)))
  (pss_cons (ps_for PassesOwn.never rfl (pi_range1 (by exact rfl) T.n_range (pa_cons (pe_callB cl_lenS (by exact rfl) T.n_len PySem.boot_len (pa_cons (pv 1) pa_nil)) pa_nil)) (pg_name (i := 6) sc_law_heaps.nd rfl (Or.inl rfl)) (pss_cons (ps_expr (pe_bm PySem.F.plainAttrs_list PySem.F.slot_list_append PySem.F.type_list_append mt_append (pv 5) (pa_cons (pe_callB (cl_max2 rfl) (by exact rfl) T.n_max (by decide +kernel) (pa_cons (pe_ix ix_list (pv 3) (pe_op op_add (pv 6) pe_int) (fun _ _ => rfl)) (pa_cons (pe_ix ix_list (pv 5) (pv 6) (fun _ _ => rfl)) pa_nil))) pa_nil)))
  (pss_one (ps_if (pt_cmpR op_eq (pe_ix ix_str (pv 0) (pv 4) (fun _ _ => rfl)) (pe_ix ix_str (pv 1) (pv 6) (fun _ _ => rfl)) (nomark _)) (pss_cons (ps_asg (pe_op op_add (pe_ix ix_list (pv 3) (pv 6) (fun _ _ => rfl)) pe_int) (pg_sub (pv 5) (pe_op op_add (pv 6) pe_int) set_list))
  (pss_cons (ps_if (pt_cmpR op_eq (pe_ix ix_list (pv 3) (pv 6) (fun _ _ => rfl)) (pe_callB cl_lenL (by exact rfl) T.n_len PySem.boot_len (pa_cons (pv 2) pa_nil)) (nomark _)) (pss_one (ps_expr (pe_bm PySem.F.plainAttrs_list PySem.F.slot_list_append PySem.F.type_list_append mt_append (pv 2) (pa_cons (pe_lst pa_nil) pa_nil)))) pss_nil)
  (pss_one (ps_expr (pe_bm PySem.F.plainAttrs_list PySem.F.slot_list_append PySem.F.type_list_append mt_append (pe_ix ix_list (pv 2) (pe_ix ix_list (pv 3) (pv 6) (fun _ _ => rfl)) (fun _ _ => rfl)) (pa_cons (pe_tup (pa_cons (pv 4) (pa_cons (pv 6) pa_nil))) pa_nil)))))) pss_nil))))
  (pss_one (ps_set (i := 3) sc_law_heaps.nd rfl (Or.inl rfl) (pv 5))))))
  (pss_one (ps_ret (pv 2))))))
theorem r_law_heaps (T : Txt w K mg) (vs : List V) (H : Hp) (Q : VK) (E : XK) (h : sp_law_heaps K vs H Q E) : t_law_heaps K { nx := fun _ H' => Q .non H', rt := Q } (start ["_law_side", "_law_top", "_law_found", "_law_row_here", "_law_i", "_law_below", "_law_j"] vs) H := by
  obtain ⟨S, a, b, rfl, eS, za, zb, k⟩ := h
  refine x_setC (c_lst va_nil (by simp) fun pf hpf => ?_)
  have g0 := (Gw.refl eS).mut (o := .lst []) hpf
  have hz : (b.length : Int) + 1 = ((b.length + 1 : Nat) : Int) := by omega
  refine x_setC ⟨one_sz, fun t ht => (val_I0 (val_lenS (val_var rfl) (by omega)) val_c) _ ⟨t, _, _, rfl, rfl, upd_same, by omega, by omega, ?_, fun rp hrp => ?_⟩⟩
  · rw [hz, Int.toNat_natCast]; exact small5 (by simp only [List.length_cons, List.length_nil]; omega)
  have e0 : (List.replicate ((b.length : Int) + 1).toNat [V.int 0]).flatten = rowV (lc a b 0) (b.length + 1) := by
    rw [hz, Int.toNat_natCast, show (List.replicate (b.length + 1) [V.int 0]).flatten = List.replicate (b.length + 1) (V.int 0) by simp, rowV_rep]
    exact rowV_ext fun i _ => (lc_0 a b i).symm
  rw [e0]
  have f0 := upd_get (o := .lst (rowV (lc a b 0) (b.length + 1))) (upd_get (o := .lst [.int 0]) (upd_same : upd H pf (.lst []) pf = _) ht) hrp
  have g1 := (g0.mut (o := .lst [.int 0]) ht).put (o := .lst (rowV (lc a b 0) (b.length + 1))) hrp
  have sf1 : upd S rp (.lst (rowV (lc a b 0) (b.length + 1))) pf = none := by
    rw [upd_ne (fun z => by rw [← z, upd_get upd_same ht] at hrp; cases hrp)]; exact eS.free hpf
  -- the state: found, its heaps, the pairs met
  let St : Nat → Nat → Hp → Hp → Prop := fun i j S' H' => Gw S H S' H' ∧ S' pf = none ∧ ∃ qs : List Addr, H' pf = some (.lst (qs.map V.ref)) ∧ qs.length = lvs a b i j ∧ qs.Nodup ∧
    ∀ h q, qs[h]? = some q → H q = none ∧ S' q = none ∧ q ≠ pf ∧ ∃ ws, H' q = some (.lst ws) ∧ AtA S' ws ((lvl a b (met a b i j) h).map ePr)
  refine x_forR (n := a.length) (val_lenS (val_var rfl) (by omega)) (by omega) (fun i σ' H' => ∃ (S' : Hp) (rp : Addr) (z4 z5 z6 : Option V), σ' = [some (.str (tx a)), some (.str (tx b)), some (.ref pf), some (.ref rp), z4, z5, z6] ∧ St i 0 S' H' ∧ S' rp = some (.lst (rowV (lc a b i) (b.length + 1))))
    ⟨_, rp, none, none, none, rfl, ⟨g1, sf1, [], f0, (lvs_0 a b).symm, List.nodup_nil, fun h q e => by simp at e⟩, upd_same⟩ ?_ ?_
  · rintro i σ' H' hi ⟨S1, rp, z4, z5, z6, rfl, ⟨g, sf, qs, hF, hql, hqn, hqs⟩, hrp⟩
    refine x_setC (c_lst (va_1 val_c) (by simp) fun lb hlb => ?_)
    have hlb0 := g.free hlb
    have slb := g.freeS hlb
    have nlf : lb ≠ pf := fun z => by rw [z, hF] at hlb; cases hlb
    have nlq : ∀ (h : Nat) (q : Addr), qs[h]? = some q → q ≠ lb := fun h q e z => by
      obtain ⟨_, _, _, ws, w, _⟩ := hqs h q e
      rw [z, hlb] at w; cases w
    refine x_forR (n := b.length) (val_lenS (val_var rfl) (by omega)) (by omega) (fun j σ' H' => ∃ (S' : Hp) (z6 : Option V), σ' = [some (.str (tx a)), some (.str (tx b)), some (.ref pf), some (.ref rp), some (.int (i : Nat)), some (.ref lb), z6] ∧ Gw S H S' H' ∧ S' pf = none ∧ S' lb = none ∧ Ex S1 S' ∧ H' lb = some (.lst (rowV (lc a b (i + 1)) (j + 1))) ∧ ∃ qs : List Addr, H' pf = some (.lst (qs.map V.ref)) ∧ qs.length = lvs a b i j ∧ qs.Nodup ∧
      ∀ h q, qs[h]? = some q → H q = none ∧ S' q = none ∧ q ≠ pf ∧ q ≠ lb ∧ ∃ ws, H' q = some (.lst ws) ∧ AtA S' ws ((lvl a b (met a b i j) h).map ePr))
      ⟨S1, z6, rfl, g.mut hlb, sf, slb, Ex.refl _, by rw [upd_same]; unfold rowV; simp [lc_s0], qs, by rw [upd_ne nlf.symm]; exact hF, hql, hqn, fun h q e => ?_⟩ ?_ ?_
    · obtain ⟨h1, h2, h3, ws, h4, h5⟩ := hqs h q e
      exact ⟨h1, h2, h3, nlq h q e, ws, by rw [upd_ne (nlq h q e)]; exact h4, h5⟩
    · clear hF hql hqn hqs nlq g sf qs
      rintro j σ' H2 hj ⟨S2, y6, rfl, g, sf, sl, e12, hB, qs, hF, hql, hqn, hqs⟩
      have hrp2 := g.i _ _ (e12 _ _ hrp)
      obtain ⟨x, hx⟩ : ∃ x, a[i]? = some x := ⟨_, List.getElem?_eq_getElem hi⟩
      obtain ⟨y, hy⟩ : ∃ y, b[j]? = some y := ⟨_, List.getElem?_eq_getElem hj⟩
      -- below grows
      refine x_app (v := .int (max (lc a b i (j + 1)) (lc a b (i + 1) j) : Nat)) (val_var rfl) (val_is (val_max2 (val_ixL (val_var rfl) (val_I0 (val_var rfl) val_c) hrp2 (rowV_at _ (i := j + 1) (by omega) (by omega))) (val_ixL (val_var rfl) (val_var rfl) hB (rowV_at _ rfl (by omega)))) (by congr 1; split <;> omega)) hB (by rw [rowV_len]; omega) ?_
      have g3 := g.set (o := .lst (rowV (lc a b (i + 1)) (j + 1) ++ [.int (max (lc a b i (j + 1)) (lc a b (i + 1) j) : Nat)])) hlb0 sl
      have hB3 : upd H2 lb (.lst (rowV (lc a b (i + 1)) (j + 1) ++ [.int (max (lc a b i (j + 1)) (lc a b (i + 1) j) : Nat)])) lb = some (.lst (rowV (lc a b (i + 1)) (j + 1) ++ [.int (max (lc a b i (j + 1)) (lc a b (i + 1) j) : Nat)])) := upd_same
      have hF3 : upd H2 lb (.lst (rowV (lc a b (i + 1)) (j + 1) ++ [.int (max (lc a b i (j + 1)) (lc a b (i + 1) j) : Nat)])) pf = some (.lst (qs.map V.ref)) := by rw [upd_ne nlf.symm]; exact hF
      have hqs3 : ∀ h q, qs[h]? = some q → H q = none ∧ S2 q = none ∧ q ≠ pf ∧ q ≠ lb ∧ ∃ ws, upd H2 lb (.lst (rowV (lc a b (i + 1)) (j + 1) ++ [.int (max (lc a b i (j + 1)) (lc a b (i + 1) j) : Nat)])) q = some (.lst ws) ∧ AtA S2 ws ((lvl a b (met a b i j) h).map ePr) := fun h q e => by
        obtain ⟨h1, h2, h3, h4, ws, h5, h6⟩ := hqs h q e
        exact ⟨h1, h2, h3, h4, ws, by rw [upd_ne h4]; exact h5, h6⟩
      generalize upd H2 lb (.lst (rowV (lc a b (i + 1)) (j + 1) ++ [.int (max (lc a b i (j + 1)) (lc a b (i + 1) j) : Nat)])) = H3 at g3 hB3 hF3 hqs3
      have hrp3 := g3.i _ _ (e12 _ _ hrp)
      refine y_when (b := decide (x = y)) (Ans.to (ans_te (val_eq (val_ixS (val_var rfl) (val_var rfl) (by omega) (at_nat rfl hx)) (val_ixS (val_var rfl) (val_var rfl) (by omega) (at_nat rfl hy)) rfl)) (by rw [tx_dec]; simp)) (fun hb => ?_) (fun hb => ?_)
      · have hb := of_decide_eq_true hb
        have hm : a[i]? = b[j]? := by rw [hx, hy, hb]
        have here : ∀ (σ : L2.St) (H' : Hp), σ[3]? = some (some (.ref rp)) → σ[6]? = some (some (.int (j : Nat))) → H' rp = some (.lst (rowV (lc a b i) (b.length + 1))) → Val (tOp (rIxL K) (tVar 3) (tVar 6)) σ H' (.int (lc a b i j : Nat)) := fun σ H' h1 h2 h3 => val_ixL (val_var h1) (val_var h2) h3 (rowV_at _ rfl (by omega))
        have hset : (rowV (lc a b (i + 1)) (j + 1) ++ [V.int (max (lc a b i (j + 1)) (lc a b (i + 1) j) : Nat)]).set (j + 1) (.int ((lc a b i j : Nat) + 1)) = rowV (lc a b (i + 1)) (j + 1 + 1) := by
          rw [rowV_succ (lc a b (i + 1)) (j + 1), lc_match a b hm, List.set_append_right _ _ (by rw [rowV_len]; exact Nat.le_refl _), rowV_len, Nat.sub_self]
          rfl
        refine x_setT ((val_I0 (here _ _ rfl rfl hrp3) val_c) _ ⟨_, rfl, (val_I0 (val_var rfl) val_c) _ ⟨lb, _, _, j + 1, rfl, rfl, hB3, by
          rw [show (j : Int) + 1 = ((j + 1 : Nat) : Int) by omega]
          exact ixN_n (by rw [List.length_append, rowV_len]; exact Nat.lt_succ_self _), ?_⟩⟩)
        rw [hset]
        have g4 := g3.set (o := .lst (rowV (lc a b (i + 1)) (j + 1 + 1))) hlb0 sl
        have hB4 : upd H3 lb (.lst (rowV (lc a b (i + 1)) (j + 1 + 1))) lb = some (.lst (rowV (lc a b (i + 1)) (j + 1 + 1))) := upd_same
        have hF4 : upd H3 lb (.lst (rowV (lc a b (i + 1)) (j + 1 + 1))) pf = some (.lst (qs.map V.ref)) := by rw [upd_ne nlf.symm]; exact hF3
        have hqs4 : ∀ h q, qs[h]? = some q → H q = none ∧ S2 q = none ∧ q ≠ pf ∧ q ≠ lb ∧ ∃ ws, upd H3 lb (.lst (rowV (lc a b (i + 1)) (j + 1 + 1))) q = some (.lst ws) ∧ AtA S2 ws ((lvl a b (met a b i j) h).map ePr) := fun h q e => by
          obtain ⟨h1, h2, h3, h4, ws, h5, h6⟩ := hqs3 h q e
          exact ⟨h1, h2, h3, h4, ws, by rw [upd_ne h4]; exact h5, h6⟩
        generalize upd H3 lb (.lst (rowV (lc a b (i + 1)) (j + 1 + 1))) = H4 at g4 hB4 hF4 hqs4
        have hrp4 := g4.i _ _ (e12 _ _ hrp)
        have hlL := lvs_le (a := a) (b := b) (i := i) hj
        -- the pair's heap is there
        have fin : ∀ (qs : List Addr) (H5 : Hp), Gw S H S2 H5 → H5 lb = some (.lst (rowV (lc a b (i + 1)) (j + 1 + 1))) → H5 pf = some (.lst (qs.map V.ref)) → qs.length = lvs a b i (j + 1) → qs.Nodup → lc a b i j < qs.length → (∀ h q, qs[h]? = some q → H q = none ∧ S2 q = none ∧ q ≠ pf ∧ q ≠ lb ∧ ∃ ws, H5 q = some (.lst ws) ∧ AtA S2 ws ((lvl a b (met a b i j) h).map ePr)) →
            ∀ (D : Ends), (∀ (S' : Hp) H', Gw S H S' H' → S' pf = none → S' lb = none → Ex S1 S' → H' lb = some (.lst (rowV (lc a b (i + 1)) (j + 1 + 1))) → (∃ qs : List Addr, H' pf = some (.lst (qs.map V.ref)) ∧ qs.length = lvs a b i (j + 1) ∧ qs.Nodup ∧ ∀ h q, qs[h]? = some q → H q = none ∧ S' q = none ∧ q ≠ pf ∧ q ≠ lb ∧ ∃ ws, H' q = some (.lst ws) ∧ AtA S' ws ((lvl a b (met a b i (j + 1)) h).map ePr)) → D.nx [some (.str (tx a)), some (.str (tx b)), some (.ref pf), some (.ref rp), some (.int (i : Nat)), some (.ref lb), some (.int (j : Nat))] H') →
            tDrop (tBM K "list" rAppend (tOp (rIxL K) (tVar 2) (tOp (rIxL K) (tVar 3) (tVar 6))) (tCons (tTup (tCons (tVar 4) (tCons (tVar 6) tNil))) tNil)) D [some (.str (tx a)), some (.str (tx b)), some (.ref pf), some (.ref rp), some (.int (i : Nat)), some (.ref lb), some (.int (j : Nat))] H5 := fun qs H5 g5 hB5 hF5 hl5 hn5 hlt hqs5 D hD => by
          obtain ⟨q, hq⟩ : ∃ q, qs[lc a b i j]? = some q := ⟨_, List.getElem?_eq_getElem hlt⟩
          obtain ⟨q1, q2, q3, q4, ws, q5, q6⟩ := hqs5 _ q hq
          have hwl := q6.lenM
          have hwz : ws.length ≤ 2304 := by
            rw [hwl]
            have h1 := List.length_filter_le (fun p : Nat × Nat => decide (lc a b p.1 p.2 = lc a b i j)) (met a b i j)
            have h2 : (met a b i j).length ≤ 48 * 48 := by
              have hs : (met a b i j) ⊆ prs a b := fun p hp => by
                unfold met at hp
                rcases List.mem_append.mp hp with h | h
                · obtain ⟨r, hr, h⟩ := List.mem_flatMap.mp h
                  exact List.mem_flatMap.mpr ⟨r, List.mem_range.mpr (by have := List.mem_range.mp hr; omega), h⟩
                · obtain ⟨c, hc, rfl⟩ := List.mem_map.mp h
                  obtain ⟨hc, e⟩ := List.mem_filter.mp hc
                  exact prs_mem.mpr ⟨hi, by have := List.mem_range.mp hc; simp only; omega, (of_decide_eq_true e).symm⟩
              have hnd : (met a b i j).Nodup := by
                have h3 : (met a b i j).Sublist (met a b i b.length) := by
                  unfold met
                  refine List.Sublist.append_left (List.Sublist.map _ (List.Sublist.filter _ ?_)) _
                  rw [show b.length = j + (b.length - j) by omega, List.range_add]
                  exact List.sublist_append_left _ _
                rw [met_row] at h3
                have h4 : (met a b (i + 1) 0).Sublist (met a b a.length 0) := by
                  unfold met
                  refine List.Sublist.append_right ?_ _
                  have er : List.range a.length = List.range (i + 1) ++ (List.range (a.length - (i + 1))).map (fun x => i + 1 + x) := by
                    rw [← List.range_add]
                    congr 1
                    omega
                  rw [er, List.flatMap_append]
                  exact List.sublist_append_left _ _
                rw [met_all] at h4
                exact (prs_nodup a b).sublist (h3.trans h4)
              have h3 := hnd.length_le_of_subset hs
              have h4 := prs_len a b
              have h5 : a.length * b.length ≤ 48 * 48 := Nat.mul_le_mul za zb
              omega
            show (lvl a b (met a b i j) (lc a b i j)).length ≤ 2304
            unfold lvl
            omega
          refine y_dropC (bm_C (val_ixL (val_var rfl) (here _ _ rfl rfl (g5.i _ _ (e12 _ _ hrp))) hF5 (at_nat rfl (map_get hq))) q5 (cons_C (c_tup (va_2 (val_var rfl) (val_var rfl)) (by simp) fun u hu => ?_)))
          have g6 := g5.put (o := .tup [.int (i : Nat), .int (j : Nat)]) hu
          have nuq : ∀ c o, H5 c = some o → u ≠ c := fun c o e z => by rw [z, e] at hu; cases hu
          have sN : ∀ c o, H5 c = some o → S2 c = none → upd S2 u (.tup [.int (i : Nat), .int (j : Nat)]) c = none := fun c o e z => by rw [upd_ne (nuq c o e).symm]; exact z
          have eU : Ex S2 (upd S2 u (.tup [.int (i : Nat), .int (j : Nat)])) := Ex.new (g5.freeS hu)
          refine ⟨q, ws, _, rfl, rfl, upd_get q5 hu, small6 (by omega), hD (upd S2 u (.tup [.int (i : Nat), .int (j : Nat)])) _ (g6.set q1 (sN _ _ q5 q2)) (sN _ _ hF5 sf) (sN _ _ hB5 sl) (e12.trans eU) (by rw [upd_ne q4.symm]; exact upd_get hB5 hu) ⟨qs, by rw [upd_ne q3.symm]; exact upd_get hF5 hu, hl5, hn5, fun h q' e => ?_⟩⟩
          obtain ⟨p1, p2, p3, p4, vs, p5, p6⟩ := hqs5 h q' e
          have el : lvl a b (met a b i (j + 1)) h = lvl a b (met a b i j) h ++ if lc a b i j = h then [(i, j)] else [] := by rw [met_yes hm, lvl_app, lvl_one]
          rw [el]
          by_cases z : lc a b i j = h
          · subst z
            rw [hq] at e
            cases e
            rw [if_pos rfl]
            exact ⟨p1, sN _ _ p5 p2, p3, p4, ws ++ [.ref u], upd_same, (q6.mono eU).snocM (At.pr (p := (i, j)) upd_same)⟩
          · rw [if_neg z, List.append_nil]
            have hne : q' ≠ q := fun y => z (by
              rw [y] at e
              obtain ⟨l1, e1⟩ := List.getElem?_eq_some_iff.mp e
              obtain ⟨l2, e2⟩ := List.getElem?_eq_some_iff.mp hq
              rw [← hn5.idxOf_getElem _ l1, ← hn5.idxOf_getElem _ l2, e1, e2])
            exact ⟨p1, sN _ _ p5 p2, p3, p4, vs, by rw [upd_ne hne]; exact upd_get p5 hu, p6.mono eU⟩
        refine x_when (b := decide (lc a b i j = lvs a b i j)) (Ans.to (ans_te (val_eq (here _ _ rfl rfl hrp4) (val_lenL (val_var rfl) hF4) rfl)) (by rw [List.length_map, hql]; exact decide_eq_decide.mpr ⟨fun q => by have := V.int.inj q; omega, fun q => by rw [q]⟩)) (fun hc => ?_) (fun hc => ?_)
        · have hc := of_decide_eq_true hc
          refine y_dropC (bm_C (val_var rfl) hF4 (cons_C (c_lst va_nil (by simp) fun e he => ?_)))
          have he0 := g4.free he
          have nee : ∀ c o, H4 c = some o → e ≠ c := fun c o z y => by rw [y, z] at he; cases he
          have g5 := (g4.mut (o := .lst []) he).set (o := .lst (qs.map V.ref ++ [.ref e])) hpf sf
          refine ⟨pf, _, _, rfl, rfl, upd_get hF4 he, small6 (by rw [List.length_map, hql, ← hc]; have := lc_le a b i j; omega), ?_⟩
          refine fin (qs ++ [e]) _ g5 (by rw [upd_ne nlf]; exact upd_get hB4 he) (by rw [upd_same, List.map_append]; rfl) (by rw [List.length_append, hql, lvs_new hm hc]; rfl) ?_ (by rw [List.length_append, hql, ← hc]; exact Nat.lt_succ_self _) (fun h q eq => ?_) _ (fun S' H' k1 k2 k3 k4 k5 k6 => ⟨S', _, rfl, k1, k2, k3, k4, k5, k6⟩)
          · refine List.nodup_append.mpr ⟨hqn, by simp, fun c hc d hd z => ?_⟩
            rw [List.mem_singleton.mp hd] at z
            obtain ⟨h, hh⟩ := List.mem_iff_getElem?.mp hc
            obtain ⟨_, _, _, _, ws, w, _⟩ := hqs4 h c hh
            exact nee _ _ w z.symm
          · by_cases hlt : h < qs.length
            · rw [List.getElem?_append_left hlt] at eq
              obtain ⟨h1, h2, h3, h4, ws, h5, h6⟩ := hqs4 h q eq
              exact ⟨h1, h2, h3, h4, ws, by rw [upd_ne h3]; exact upd_get h5 he, h6⟩
            · rw [List.getElem?_append_right (by omega)] at eq
              have hh : h = qs.length := by
                have := (List.getElem?_eq_some_iff.mp eq).1
                simp at this
                omega
              subst hh
              rw [Nat.sub_self] at eq
              injection eq with eq
              rw [← eq]
              refine ⟨he0, g4.freeS he, nee _ _ hF4, nee _ _ hB4, [], by rw [upd_ne (nee _ _ hF4), upd_same], ?_⟩
              rw [lvl_none hi (by omega) (by omega)]
              exact .nil
        · have hc := of_decide_eq_false hc
          exact fin qs H4 g4 hB4 hF4 (by rw [hql, lvs_old hm hj hc]) hqn (by omega) hqs4 _ (fun S' H' k1 k2 k3 k4 k5 k6 => ⟨S', _, rfl, k1, k2, k3, k4, k5, k6⟩)
      · have hb := of_decide_eq_false hb
        have hm : a[i]? ≠ b[j]? := by rw [hx, hy]; intro z; exact hb (Option.some.inj z)
        refine ⟨S2, _, rfl, g3, sf, sl, e12, ?_, qs, hF3, by rw [hql, lvs_no hm hj], hqn, fun h q e => ?_⟩
        · rw [hB3, rowV_succ (lc a b (i + 1)) (j + 1), lc_ss, if_neg hm]
        · rw [met_no hm]
          exact hqs3 h q e
    · clear hF hql hqn hqs nlq g sf qs
      rintro σ' H2 ⟨S2, y6, rfl, g, sf, sl, e12, hB, qs, hF, hql, hqn, hqs⟩
      have g3 := g.frz hlb0 sl hB
      refine y_set (val_var rfl) ⟨_, lb, _, _, _, rfl, ⟨g3, by rw [upd_ne nlf.symm]; exact sf, qs, hF, by rw [hql, lvs_row], hqn, fun h q e => ?_⟩, upd_same⟩
      obtain ⟨h1, h2, h3, h4, ws, h5, h6⟩ := hqs h q e
      rw [met_row] at h6
      exact ⟨h1, by rw [upd_ne h4]; exact h2, h3, ws, h5, h6.mono (Ex.new sl)⟩
  · rintro σ' H' ⟨S1, rp, z4, z5, z6, rfl, ⟨g, sf, qs, hF, hql, hqn, hqs⟩, hrp⟩
    rw [lvs_end] at hql
    have ga := g.all
    have eA : Ex S1 (fun c => if H c = none then H' c else S1 c) := fun c o e => by
      show (if H c = none then H' c else S1 c) = some o
      by_cases z : H c = none
      · rw [if_pos z]; exact g.i _ _ e
      · rw [if_neg z]; exact e
    have at_ : ∀ c o, H c = none → H' c = some o → (fun c => if H c = none then H' c else S1 c) c = some o := fun c o z e => by
      show (if H c = none then H' c else S1 c) = some o
      rw [if_pos z]; exact e
    refine x_ret (val_var rfl) (k _ _ _ ga (.lst (at_ _ _ hpf hF) ?_))
    unfold hps
    rw [List.map_map]
    have key : ∀ (n : Nat) (qs : List Addr) (f : Nat → PyData), qs.length = n → (∀ h q, qs[h]? = some q → At (fun c => if H c = none then H' c else S1 c) (.ref q) (f h)) → AtA (fun c => if H c = none then H' c else S1 c) (qs.map V.ref) ((List.range n).map f) := fun n => by
      induction n with
      | zero => intro qs f e _; rw [List.eq_nil_of_length_eq_zero e]; exact .nil
      | succ n ih =>
        intro qs f e hh
        obtain ⟨M, z, rfl⟩ : ∃ M z, qs = M ++ [z] := ⟨qs.dropLast, qs.getLast (fun y => by rw [y] at e; cases e), (List.dropLast_concat_getLast _).symm⟩
        rw [List.length_append, List.length_singleton] at e
        rw [List.range_succ, List.map_append, List.map_append]
        refine (ih M f (by omega) fun h q e2 => hh h q (by rw [List.getElem?_append_left (by have := (List.getElem?_eq_some_iff.mp e2).1; omega)]; exact e2)).snoc (hh n z ?_)
        rw [List.getElem?_append_right (by omega), show n - M.length = 0 by omega]
        rfl
    refine key _ qs _ hql fun h q e => ?_
    obtain ⟨h1, h2, h3, ws, h5, h6⟩ := hqs h q e
    rw [met_all] at h6
    exact .lst (at_ _ _ h1 h5) (h6.mono eA)
theorem ok_law_heaps (T : Txt w K mg) : Df P w K mg base 1 (He.ga K "_law_heaps") ["_law_side", "_law_top"] (sp_law_heaps K) :=
  df_of T.f_law_heaps sc_law_heaps (fun _ _ _ _ _ _ us hl => match us, hl with | [_, _], _ => rfl) (fun vs H Q E h => by
    obtain ⟨S, a, b, rfl, _⟩ := h
    rfl) (fun cdv A outer s H E hr => w_law_heaps T cdv A outer s H E hr) (fun vs H Q E h => r_law_heaps T vs H Q E h)
end
end Pk
namespace Pk
open PySem PySem.Spec
open PyProof.Rows L2
/-! ## is_row -/
theorem sc_is_row : FnScope ["thing", "sign"] ["thing"] (defScope s_is_row) := ⟨rfl, rfl, rfl, by decide +kernel, rfl, by decide +kernel, by decide +kernel⟩
def sp_is_row (K : PySem.W.Frag) : Sp := fun vs H Q _ => ∃ (l : List Nat), vs = [.str (tx l)] ∧ RowP l ∧ ∀ H', Ex H H' → Q (.bl true) H'
def t_is_row (K : PySem.W.Frag) : TS := (tSeq (tIfS (tOr (tNot (tB (tCB (rIsi K) (tCons (tVar 0) (tCons (tC (.ty "str")) tNil))))) (tTest (tOp oGt (tCB cLenS (tCons (tVar 0) tNil)) (tC (.int 48))))) (tRet (tC (.bl false))) tNext)
  (tRet (tCB (rAll K) (tCons (tLc (iStr (tVar 0)) (gName 1) tYes (tOrV (tOp rInS (tVar 1) (tC (.str "abcdefghijklmnopqrstuvwxyz"))) (tOp rEq (tVar 1) (tC (.str ".")))) [1]) tNil))))
section
variable {P : Program} {w : World} {K : PySem.W.Frag} {mg : Str → Option Value} {base : Heap}
theorem w_is_row (T : Txt w K mg) (cdv : Value) (A : Around) (outer : List Env) (s : Shared) (H : Hp) (E : XK) (hr : Room 0 (A.deeper (envOfC "is_row" (defScope s_is_row) s.heap.objs.size (He.ga K "is_row") cdv))) :
    PSs (cxOf CX0 P w K mg base ["thing", "sign"] "is_row" (defScope s_is_row) (He.ga K "is_row") cdv A outer s H E).nox (defBody s_is_row) (t_is_row K) := by
  obtain ⟨tk_LETTERS, hc_LETTERS⟩ := T.c_LETTERS
  obtain ⟨tk_MOST_SIGNS, hc_MOST_SIGNS⟩ := T.c_MOST_SIGNS
  exact (pss_cons (ps_if (PW.pt (pw_or (pt_not (pt_val (pe_callB call_isi (by exact rfl) T.n_isinstance (by decide +kernel) (pa_cons (pv 0) (pa_cons (pe_bltn (v := .ty "str") (by exact rfl) T.n_str (by decide +kernel) rfl) pa_nil))))) (pw_or1 (pt_cmpR op_gt (pe_callB cl_lenS (by exact rfl) T.n_len PySem.boot_len (pa_cons (pv 0) pa_nil)) (pe_glob (v := .int 48) (by exact rfl) hc_MOST_SIGNS ⟨_, rfl⟩) (nomark _))))) (pss_one (ps_ret pe_bl)) pss_nil)
  (pss_one (ps_ret (pe_callB (cr_all rfl) (by exact rfl) T.n_all (by decide +kernel) (pa_cons (pe_lc (own := [("sign", 1)]) (g := (gName 1)) (tt := tYes) rfl sc_is_row.nd (pi_str (pv 0)) (blkOk_by (N := ["thing", "sign"]) (sc := defScope s_is_row) (by decide +kernel)) (fun _ _ _ _ _ => (pg_name (i := 1) sc_is_row.nd rfl (Or.inl rfl))) (fun _ _ _ _ _ => pts_nil) (fun _ _ _ _ _ => (pe_or (pe_cmpR op_inS (pv 1) (pe_glob (v := .str "abcdefghijklmnopqrstuvwxyz") (by exact rfl) hc_LETTERS ⟨_, rfl⟩) (by rfl)) (pe_one (pe_cmpR op_eq (pv 1) pe_str (nomark _)))))) pa_nil)))))
theorem r_is_row (T : Txt w K mg) (vs : List V) (H : Hp) (Q : VK) (E : XK) (h : sp_is_row K vs H Q E) : t_is_row K { nx := fun _ H' => Q .non H', rt := Q } (start ["thing", "sign"] vs) H := by
  obtain ⟨l, rfl, hl, k⟩ := h
  have hz := hl.1
  refine x_no (ans_orW (a := false) (b := false) (Ans.to (ans_not (ans_val (val_isi (b := true) (val_var rfl) val_c (.ty _) (.base (.str _)) (kit_ty (by decide +kernel))))) rfl) fun _ => Ans.to (ans_te (val_I0 (val_lenS (l := l) (val_var rfl) (by omega)) val_c)) ?_) ?_
  · exact decide_eq_false (by omega)
  refine x_retC (c_arg1 (c_tlc (fun R r => ⟨_, rfl, tx l, rfl, r⟩) walk_str (fun n S acc => acc = (List.replicate n true).map V.bl) (Ex.refl H) (fun _ _ => trivial) rfl (fun n S' H' acc x H'' R L hn g1 hF hy kR kL => ?_) (fun D S' H' acc hF g1 sD hD eD => ?_)))
  · obtain ⟨rfl, c, hc, rfl⟩ := hy
    rw [tx_at] at hc
    have hm := hl.2 c (List.mem_of_getElem? hc)
    refine ⟨rfl, c_yes ?_⟩
    refine val_orV (a := decide (isLt c)) (b := true) (val_bl (val_inS (c := c) (val_var rfl) val_c) ?_) (fun ha => val_bl (val_eq (val_var rfl) val_c rfl) ?_) R ?_
    · exact decide_eq_decide.mpr (letters_mem c)
    · rcases hm with hm | hm
      · rw [decide_eq_true hm] at ha; cases ha
      · subst hm
        exact decide_eq_true (congrArg V.str dot_tx.symm)
    · refine kR _ S' H'' (Gw.refl g1.i) ?_ ?_
      · rw [hF, List.replicate_succ', List.map_append, Bool.or_true]
        rfl
      · rw [hF, List.length_map, List.length_replicate]
        rw [tx_size] at hn
        omega
  · refine ⟨D, List.replicate (tx l).cps.size true, rfl, SqL.of (by rw [eD, hF]), ?_⟩
    have e : (List.replicate (tx l).cps.size true).all id = true := by simp
    rw [e]
    exact k H' g1.h
theorem ok_is_row (T : Txt w K mg) : Df P w K mg base 1 (He.ga K "is_row") ["thing"] (sp_is_row K) :=
  df_of T.f_is_row sc_is_row (fun _ _ _ _ _ _ us hl => match us, hl with | [_], _ => rfl) (fun vs H Q E h => by
    obtain ⟨l, rfl, _⟩ := h
    rfl) (fun cdv A outer s H E hr => w_is_row T cdv A outer s H E hr) (fun vs H Q E h => r_is_row T vs H Q E h)
end
end Pk
namespace Pk
open PySem PySem.Spec
open PyProof.Rows L2
/-! ## is_plain -/
theorem sc_is_plain : FnScope ["thing"] ["thing"] (defScope s_is_plain) := ⟨rfl, rfl, rfl, by decide +kernel, rfl, by decide +kernel, by decide +kernel⟩
def sp_is_plain (K : PySem.W.Frag) : Sp := fun vs H Q _ => ∃ (l : List Nat), vs = [.str (tx l)] ∧ Plain l ∧ ∀ H', Ex H H' → Q (.bl true) H'
def t_is_plain (K : PySem.W.Frag) : TS := (tRet (tAndV (tCall (sp_is_row K) [] E0 (tCons (tVar 0) tNil)) (tAndV (tOp oLe (tCB cLenS (tCons (tVar 0) tNil)) (tC (.int 24))) (tOp rNotInS (tC (.str ".")) (tVar 0)))))
section
variable {P : Program} {w : World} {K : PySem.W.Frag} {mg : Str → Option Value} {base : Heap}
theorem w_is_plain (T : Txt w K mg) (cdv : Value) (A : Around) (outer : List Env) (s : Shared) (H : Hp) (E : XK) (hr : Room 1 (A.deeper (envOfC "is_plain" (defScope s_is_plain) s.heap.objs.size (He.ga K "is_plain") cdv))) :
    PSs (cxOf CX0 P w K mg base ["thing"] "is_plain" (defScope s_is_plain) (He.ga K "is_plain") cdv A outer s H E).nox (defBody s_is_plain) (t_is_plain K) := by
  obtain ⟨⟨fd_is_row, F_is_row, b_is_row⟩, k_is_row⟩ := ok_is_row (P := P) (base := base) T
  obtain ⟨tk_MOST_LETTERS, hc_MOST_LETTERS⟩ := T.c_MOST_LETTERS
  exact (pss_one (ps_ret (pe_and (pe_call F_is_row (hr.mono (by decide)) (by exact rfl) T.g_is_row k_is_row b_is_row .nil pass0 (pa_cons (pv 0) pa_nil)) (pe_and (pe_cmpR op_le (pe_callB cl_lenS (by exact rfl) T.n_len PySem.boot_len (pa_cons (pv 0) pa_nil)) (pe_glob (v := .int 24) (by exact rfl) hc_MOST_LETTERS ⟨_, rfl⟩) (nomark _)) (pe_one (pe_cmpR op_notInS pe_str (pv 0) (by rfl)))))))
theorem r_is_plain (T : Txt w K mg) (vs : List V) (H : Hp) (Q : VK) (E : XK) (h : sp_is_plain K vs H Q E) : t_is_plain K { nx := fun _ H' => Q .non H', rt := Q } (start ["thing"] vs) H := by
  obtain ⟨l, rfl, hl, k⟩ := h
  have hz := hl.1
  refine ⟨_, rfl, l, rfl, hl.row, fun H1 e1 => ⟨true, rfl, iteT ?_⟩⟩
  refine val_andV (a := true) (b := true) (val_bl (val_I0 (val_lenS (l := l) (val_var rfl) (by omega)) val_c) ?_) (fun _ => val_bl (val_notInS (c := 46) (l := tx l) val_dot (val_var rfl)) ?_) Q (k H1 e1)
  · exact decide_eq_true (by omega)
  · rw [tx_list, decide_eq_false (fun q => ?_)]
    · rfl
    · have h2 := hl.2 46 q
      unfold isLt at h2
      omega
theorem ok_is_plain (T : Txt w K mg) : Df P w K mg base 2 (He.ga K "is_plain") ["thing"] (sp_is_plain K) :=
  df_of T.f_is_plain sc_is_plain (fun _ _ _ _ _ _ us hl => match us, hl with | [_], _ => rfl) (fun vs H Q E h => by
    obtain ⟨l, rfl, _⟩ := h
    rfl) (fun cdv A outer s H E hr => w_is_plain T cdv A outer s H E hr) (fun vs H Q E h => r_is_plain T vs H Q E h)
end
end Pk
namespace Pk
open PySem PySem.Spec
open PyProof.Rows L2
/-! ## need_plain -/
theorem sc_need_plain : FnScope ["row"] ["row"] (defScope s_need_plain) := ⟨rfl, rfl, rfl, by decide +kernel, rfl, by decide +kernel, by decide +kernel⟩
def sp_need_plain (K : PySem.W.Frag) : Sp := fun vs H Q _ => ∃ (l : List Nat), vs = [.str (tx l)] ∧ Plain l ∧ ∀ H', Ex H H' → Q (.non) H'
def t_need_plain (K : PySem.W.Frag) : TS := (tIfS (tNot (tB (tCall (sp_is_plain K) [] E0 (tCons (tVar 0) tNil)))) tNever tNext)
section
variable {P : Program} {w : World} {K : PySem.W.Frag} {mg : Str → Option Value} {base : Heap}
theorem w_need_plain (T : Txt w K mg) (cdv : Value) (A : Around) (outer : List Env) (s : Shared) (H : Hp) (E : XK) (hr : Room 2 (A.deeper (envOfC "need_plain" (defScope s_need_plain) s.heap.objs.size (He.ga K "need_plain") cdv))) :
    PSs (cxOf CX0 P w K mg base ["row"] "need_plain" (defScope s_need_plain) (He.ga K "need_plain") cdv A outer s H E).nox (defBody s_need_plain) (t_need_plain K) := by
  obtain ⟨⟨fd_is_plain, F_is_plain, b_is_plain⟩, k_is_plain⟩ := ok_is_plain (P := P) (base := base) T
  exact (pss_one (ps_if (pt_not (pt_val (pe_call F_is_plain (hr.mono (by decide)) (by exact rfl) T.g_is_plain k_is_plain b_is_plain .nil pass0 (pa_cons (pv 0) pa_nil)))) (pss_one ps_never) pss_nil))
theorem r_need_plain (T : Txt w K mg) (vs : List V) (H : Hp) (Q : VK) (E : XK) (h : sp_need_plain K vs H Q E) : t_need_plain K { nx := fun _ H' => Q .non H', rt := Q } (start ["row"] vs) H := by
  obtain ⟨l, rfl, hl, k⟩ := h
  show tIfS _ _ _ _ [_] H
  exact ⟨_, rfl, l, rfl, hl, fun H1 e1 => ⟨true, rfl, k H1 e1⟩⟩
theorem ok_need_plain (T : Txt w K mg) : Df P w K mg base 3 (He.ga K "need_plain") ["row"] (sp_need_plain K) :=
  df_of T.f_need_plain sc_need_plain (fun _ _ _ _ _ _ us hl => match us, hl with | [_], _ => rfl) (fun vs H Q E h => by
    obtain ⟨l, rfl, _⟩ := h
    rfl) (fun cdv A outer s H E hr => w_need_plain T cdv A outer s H E hr) (fun vs H Q E h => r_need_plain T vs H Q E h)
end
end Pk
namespace Pk
open PySem PySem.Spec
open PyProof.Rows L2
/-! ## need_plains -/
theorem sc_need_plains : FnScope ["side", "top"] ["side", "top"] (defScope s_need_plains) := ⟨rfl, rfl, rfl, by decide +kernel, rfl, by decide +kernel, by decide +kernel⟩
def sp_need_plains (K : PySem.W.Frag) : Sp := fun vs H Q _ => ∃ (a b : List Nat), vs = [.str (tx a), .str (tx b)] ∧ Plain a ∧ Plain b ∧ ∀ H', Ex H H' → Q (.non) H'
def t_need_plains (K : PySem.W.Frag) : TS := (tSeq (tDrop (tCall (sp_need_plain K) [] E0 (tCons (tVar 0) tNil)))
  (tDrop (tCall (sp_need_plain K) [] E0 (tCons (tVar 1) tNil))))
section
variable {P : Program} {w : World} {K : PySem.W.Frag} {mg : Str → Option Value} {base : Heap}
theorem w_need_plains (T : Txt w K mg) (cdv : Value) (A : Around) (outer : List Env) (s : Shared) (H : Hp) (E : XK) (hr : Room 3 (A.deeper (envOfC "need_plains" (defScope s_need_plains) s.heap.objs.size (He.ga K "need_plains") cdv))) :
    PSs (cxOf CX0 P w K mg base ["side", "top"] "need_plains" (defScope s_need_plains) (He.ga K "need_plains") cdv A outer s H E).nox (defBody s_need_plains) (t_need_plains K) := by
  obtain ⟨⟨fd_need_plain, F_need_plain, b_need_plain⟩, k_need_plain⟩ := ok_need_plain (P := P) (base := base) T
  exact (pss_cons (ps_expr (pe_call F_need_plain (hr.mono (by decide)) (by exact rfl) T.g_need_plain k_need_plain b_need_plain .nil pass0 (pa_cons (pv 0) pa_nil)))
  (pss_one (ps_expr (pe_call F_need_plain (hr.mono (by decide)) (by exact rfl) T.g_need_plain k_need_plain b_need_plain .nil pass0 (pa_cons (pv 1) pa_nil)))))
theorem r_need_plains (T : Txt w K mg) (vs : List V) (H : Hp) (Q : VK) (E : XK) (h : sp_need_plains K vs H Q E) : t_need_plains K { nx := fun _ H' => Q .non H', rt := Q } (start ["side", "top"] vs) H := by
  obtain ⟨a, b, rfl, ha, hb, k⟩ := h
  exact ⟨_, rfl, a, rfl, ha, fun H1 e1 => ⟨_, rfl, b, rfl, hb, fun H2 e2 => k H2 (e1.trans e2)⟩⟩
theorem ok_need_plains (T : Txt w K mg) : Df P w K mg base 4 (He.ga K "need_plains") ["side", "top"] (sp_need_plains K) :=
  df_of T.f_need_plains sc_need_plains (fun _ _ _ _ _ _ us hl => match us, hl with | [_, _], _ => rfl) (fun vs H Q E h => by
    obtain ⟨a, b, rfl, _⟩ := h
    rfl) (fun cdv A outer s H E hr => w_need_plains T cdv A outer s H E hr) (fun vs H Q E h => r_need_plains T vs H Q E h)
end
end Pk
namespace Pk
open PySem PySem.Spec
open PyProof.Rows L2
/-! ## parted -/
theorem sc_parted : FnScope ["row", "sign"] ["row"] (defScope s_parted) := ⟨rfl, rfl, rfl, by decide +kernel, rfl, by decide +kernel, by decide +kernel⟩
def sp_parted (K : PySem.W.Frag) : Sp := fun vs H Q _ => ∃ (l : List Nat), vs = [.str (tx l)] ∧ Plain l ∧ ∀ H', Ex H H' → Q (.str (tx (part l))) H'
def t_parted (K : PySem.W.Frag) : TS := (tSeq (tDrop (tCall (sp_need_plain K) [] E0 (tCons (tVar 0) tNil)))
  (tRet (tM1 (cJoin K) (tC (.str "")) (tLc (iStr (tVar 0)) (gName 1) tYes (tOp oCatS (tC (.str ".")) (tVar 1)) [1]))))
section
variable {P : Program} {w : World} {K : PySem.W.Frag} {mg : Str → Option Value} {base : Heap}
theorem w_parted (T : Txt w K mg) (cdv : Value) (A : Around) (outer : List Env) (s : Shared) (H : Hp) (E : XK) (hr : Room 3 (A.deeper (envOfC "parted" (defScope s_parted) s.heap.objs.size (He.ga K "parted") cdv))) :
    PSs (cxOf CX0 P w K mg base ["row", "sign"] "parted" (defScope s_parted) (He.ga K "parted") cdv A outer s H E).nox (defBody s_parted) (t_parted K) := by
  obtain ⟨⟨fd_need_plain, F_need_plain, b_need_plain⟩, k_need_plain⟩ := ok_need_plain (P := P) (base := base) T
  exact (pss_cons (ps_expr (pe_call F_need_plain (hr.mono (by decide)) (by exact rfl) T.g_need_plain k_need_plain b_need_plain .nil pass0 (pa_cons (pv 0) pa_nil)))
  (pss_one (ps_ret (pe_join pe_str (pe_lc (own := [("sign", 1)]) (g := (gName 1)) (tt := tYes) rfl sc_parted.nd (pi_str (pv 0)) (blkOk_by (N := ["row", "sign"]) (sc := defScope s_parted) (by decide +kernel)) (fun _ _ _ _ _ => (pg_name (i := 1) sc_parted.nd rfl (Or.inl rfl))) (fun _ _ _ _ _ => pts_nil) (fun _ _ _ _ _ => (pe_op op_catS pe_str (pv 1))))))))
theorem r_parted (T : Txt w K mg) (vs : List V) (H : Hp) (Q : VK) (E : XK) (h : sp_parted K vs H Q E) : t_parted K { nx := fun _ H' => Q .non H', rt := Q } (start ["row", "sign"] vs) H := by
  obtain ⟨l, rfl, hl, k⟩ := h
  have hz := hl.1
  refine x_dropC (c_call (va_1 (val_var rfl)) ⟨l, rfl, hl, fun H1 e1 => ?_⟩)
  refine x_retC ⟨⟨_, rfl⟩, c_tlc (fun R r => ⟨_, rfl, tx l, rfl, r⟩) walk_str (fun n S acc => acc = (l.take n).map fun c => V.str (tx [46, c])) (Ex.refl H1) (fun _ _ => trivial) rfl (fun n S' H' acc x H'' R L hn g1 hF hy kR kL => ?_) (fun D S' H' acc hF g1 sD hD eD => ?_)⟩
  · obtain ⟨rfl, c, hc, rfl⟩ := hy
    rw [tx_at] at hc
    refine ⟨rfl, c_yes ?_⟩
    refine val_catS (a := [46]) (b := [c]) val_dot (val_var rfl) (by simp) R ?_
    refine kR _ S' H'' (Gw.refl g1.i) ?_ ?_
    · rw [hF, List.take_succ, hc, List.map_append]
      rfl
    · rw [hF, List.length_map, List.length_take]
      omega
  · refine ⟨"", D, (l.map fun c => [46, c]).map tx, rfl, rfl, .inl (SqL.of ?_), ?_, ?_⟩
    · rw [eD, hF, tx_size, List.take_length, List.map_map, List.map_map]
      rfl
    · rw [List.map_map]
      have e : (List.map ((fun x : Str => x.length) ∘ tx) (l.map fun c => [46, c])).sum + ((l.map fun c => [46, c]).map tx).length * ("" : Str).length = 2 * l.length := by
        have e0 : ("" : Str).length = 0 := by rw [empty_tx]; rfl
        rw [e0, Nat.mul_zero, Nat.add_zero]
        clear hz hF eD hl k
        induction l with
        | nil => rfl
        | cons c l ih =>
          rw [List.map_cons, List.map_cons, List.sum_cons, ih, List.length_cons]
          show (tx [46, c]).length + _ = _
          rw [tx_len]
          simp only [List.length_cons, List.length_nil]
          omega
      rw [e]
      omega
    · rw [join_tx]
      exact k H' (e1.trans g1.h)
theorem ok_parted (T : Txt w K mg) : Df P w K mg base 4 (He.ga K "parted") ["row"] (sp_parted K) :=
  df_of T.f_parted sc_parted (fun _ _ _ _ _ _ us hl => match us, hl with | [_], _ => rfl) (fun vs H Q E h => by
    obtain ⟨l, rfl, _⟩ := h
    rfl) (fun cdv A outer s H E hr => w_parted T cdv A outer s H E hr) (fun vs H Q E h => r_parted T vs H Q E h)
end
end Pk
namespace Pk
open PySem PySem.Spec
open PyProof.Rows L2
/-! ## need_row -/
theorem sc_need_row : FnScope ["row"] ["row"] (defScope s_need_row) := ⟨rfl, rfl, rfl, by decide +kernel, rfl, by decide +kernel, by decide +kernel⟩
def sp_need_row (K : PySem.W.Frag) : Sp := fun vs H Q _ => ∃ (l : List Nat), vs = [.str (tx l)] ∧ RowP l ∧ ∀ H', Ex H H' → Q (.non) H'
def t_need_row (K : PySem.W.Frag) : TS := (tIfS (tNot (tB (tCall (sp_is_row K) [] E0 (tCons (tVar 0) tNil)))) tNever tNext)
section
variable {P : Program} {w : World} {K : PySem.W.Frag} {mg : Str → Option Value} {base : Heap}
theorem w_need_row (T : Txt w K mg) (cdv : Value) (A : Around) (outer : List Env) (s : Shared) (H : Hp) (E : XK) (hr : Room 1 (A.deeper (envOfC "need_row" (defScope s_need_row) s.heap.objs.size (He.ga K "need_row") cdv))) :
    PSs (cxOf CX0 P w K mg base ["row"] "need_row" (defScope s_need_row) (He.ga K "need_row") cdv A outer s H E).nox (defBody s_need_row) (t_need_row K) := by
  obtain ⟨⟨fd_is_row, F_is_row, b_is_row⟩, k_is_row⟩ := ok_is_row (P := P) (base := base) T
  exact (pss_one (ps_if (pt_not (pt_val (pe_call F_is_row (hr.mono (by decide)) (by exact rfl) T.g_is_row k_is_row b_is_row .nil pass0 (pa_cons (pv 0) pa_nil)))) (pss_one ps_never) pss_nil))
theorem r_need_row (T : Txt w K mg) (vs : List V) (H : Hp) (Q : VK) (E : XK) (h : sp_need_row K vs H Q E) : t_need_row K { nx := fun _ H' => Q .non H', rt := Q } (start ["row"] vs) H := by
  obtain ⟨l, rfl, hl, k⟩ := h
  show tIfS _ _ _ _ [_] H
  exact ⟨_, rfl, l, rfl, hl, fun H1 e1 => ⟨true, rfl, k H1 e1⟩⟩
theorem ok_need_row (T : Txt w K mg) : Df P w K mg base 2 (He.ga K "need_row") ["row"] (sp_need_row K) :=
  df_of T.f_need_row sc_need_row (fun _ _ _ _ _ _ us hl => match us, hl with | [_], _ => rfl) (fun vs H Q E h => by
    obtain ⟨l, rfl, _⟩ := h
    rfl) (fun cdv A outer s H E hr => w_need_row T cdv A outer s H E hr) (fun vs H Q E h => r_need_row T vs H Q E h)
end
end Pk
namespace Pk
open PySem PySem.Spec
open PyProof.Rows L2
/-! ## need_rows -/
theorem sc_need_rows : FnScope ["side", "top"] ["side", "top"] (defScope s_need_rows) := ⟨rfl, rfl, rfl, by decide +kernel, rfl, by decide +kernel, by decide +kernel⟩
def sp_need_rows (K : PySem.W.Frag) : Sp := fun vs H Q _ => ∃ (a b : List Nat), vs = [.str (tx a), .str (tx b)] ∧ RowP a ∧ RowP b ∧ ∀ H', Ex H H' → Q (.non) H'
def t_need_rows (K : PySem.W.Frag) : TS := (tSeq (tDrop (tCall (sp_need_row K) [] E0 (tCons (tVar 0) tNil)))
  (tDrop (tCall (sp_need_row K) [] E0 (tCons (tVar 1) tNil))))
section
variable {P : Program} {w : World} {K : PySem.W.Frag} {mg : Str → Option Value} {base : Heap}
theorem w_need_rows (T : Txt w K mg) (cdv : Value) (A : Around) (outer : List Env) (s : Shared) (H : Hp) (E : XK) (hr : Room 2 (A.deeper (envOfC "need_rows" (defScope s_need_rows) s.heap.objs.size (He.ga K "need_rows") cdv))) :
    PSs (cxOf CX0 P w K mg base ["side", "top"] "need_rows" (defScope s_need_rows) (He.ga K "need_rows") cdv A outer s H E).nox (defBody s_need_rows) (t_need_rows K) := by
  obtain ⟨⟨fd_need_row, F_need_row, b_need_row⟩, k_need_row⟩ := ok_need_row (P := P) (base := base) T
  exact (pss_cons (ps_expr (pe_call F_need_row (hr.mono (by decide)) (by exact rfl) T.g_need_row k_need_row b_need_row .nil pass0 (pa_cons (pv 0) pa_nil)))
  (pss_one (ps_expr (pe_call F_need_row (hr.mono (by decide)) (by exact rfl) T.g_need_row k_need_row b_need_row .nil pass0 (pa_cons (pv 1) pa_nil)))))
theorem r_need_rows (T : Txt w K mg) (vs : List V) (H : Hp) (Q : VK) (E : XK) (h : sp_need_rows K vs H Q E) : t_need_rows K { nx := fun _ H' => Q .non H', rt := Q } (start ["side", "top"] vs) H := by
  obtain ⟨a, b, rfl, ha, hb, k⟩ := h
  exact ⟨_, rfl, a, rfl, ha, fun H1 e1 => ⟨_, rfl, b, rfl, hb, fun H2 e2 => k H2 (e1.trans e2)⟩⟩
theorem ok_need_rows (T : Txt w K mg) : Df P w K mg base 3 (He.ga K "need_rows") ["side", "top"] (sp_need_rows K) :=
  df_of T.f_need_rows sc_need_rows (fun _ _ _ _ _ _ us hl => match us, hl with | [_, _], _ => rfl) (fun vs H Q E h => by
    obtain ⟨a, b, rfl, _⟩ := h
    rfl) (fun cdv A outer s H E hr => w_need_rows T cdv A outer s H E hr) (fun vs H Q E h => r_need_rows T vs H Q E h)
end
end Pk
namespace Pk
open PySem PySem.Spec
open PyProof.Rows L2
/-! ## lengths -/
theorem sc_lengths : FnScope ["side", "top", "table", "sign", "above", "row", "at", "other", "most"] ["side", "top"] (defScope s_lengths) := ⟨rfl, rfl, rfl, by decide +kernel, rfl, by decide +kernel, by decide +kernel⟩
def sp_lengths (K : PySem.W.Frag) : Sp := fun vs H Q _ => ∃ (S : Hp) (a b : List Nat), vs = [.str (tx a), .str (tx b)] ∧ Ex S H ∧ RowP a ∧ RowP b ∧ ∀ S' H' v', Gw S H S' H' → At S' v' (eILL (tabI (lc a b) (a.length + 1) (b.length + 1))) → Q v' H'
def t_lengths (K : PySem.W.Frag) : TS := (tSeq (tDrop (tCall (sp_need_rows K) [] E0 (tCons (tVar 0) (tCons (tVar 1) tNil))))
  (tSeq (tAsg (tLst (tCons (tOp rRep (tLst (tCons (tC (.int 0)) tNil)) (tOp oAdd (tCB cLenS (tCons (tVar 1) tNil)) (tC (.int 1)))) tNil)) (gName 2))
  (tSeq (tFor (iStr (tVar 0)) (gName 3) (tSeq (tAsg (tOp (rIxL K) (tVar 2) (tUn oNeg (tC (.int 1)))) (gName 4))
  (tSeq (tAsg (tLst (tCons (tC (.int 0)) tNil)) (gName 5))
  (tSeq (tFor (iEnumS (tCons (tVar 1) tNil)) (gTup K 2 (gCons (gName 6) (gCons (gName 7) gNil))) (tSeq (tAsg (tCB cMax2 (tCons (tOp (rIxL K) (tVar 4) (tOp oAdd (tVar 6) (tC (.int 1)))) (tCons (tOp (rIxL K) (tVar 5) (tVar 6)) tNil))) (gName 8))
  (tSeq (tIfS (tTest (tOp rEq (tVar 3) (tVar 7))) (tAsg (tOp oAdd (tOp (rIxL K) (tVar 4) (tVar 6)) (tC (.int 1))) (gName 8)) tNext)
  (tDrop (tBM K "list" rAppend (tVar 5) (tCons (tVar 8) tNil))))))
  (tDrop (tBM K "list" rAppend (tVar 2) (tCons (tVar 5) tNil)))))))
  (tRet (tVar 2)))))
section
variable {P : Program} {w : World} {K : PySem.W.Frag} {mg : Str → Option Value} {base : Heap}
theorem w_lengths (T : Txt w K mg) (cdv : Value) (A : Around) (outer : List Env) (s : Shared) (H : Hp) (E : XK) (hr : Room 3 (A.deeper (envOfC "lengths" (defScope s_lengths) s.heap.objs.size (He.ga K "lengths") cdv))) :
    PSs (cxOf CX0 P w K mg base ["side", "top", "table", "sign", "above", "row", "at", "other", "most"] "lengths" (defScope s_lengths) (He.ga K "lengths") cdv A outer s H E).nox (defBody s_lengths) (t_lengths K) := by
  obtain ⟨⟨fd_need_rows, F_need_rows, b_need_rows⟩, k_need_rows⟩ := ok_need_rows (P := P) (base := base) T
  exact (pss_cons (ps_expr (pe_call F_need_rows (hr.mono (by decide)) (by exact rfl) T.g_need_rows k_need_rows b_need_rows .nil pass0 (pa_cons (pv 0) (pa_cons (pv 1) pa_nil))))
  (pss_cons (ps_set (i := 2) sc_lengths.nd rfl (Or.inl rfl) (pe_lst (pa_cons (pe_op op_rep (pe_lst (pa_cons pe_int pa_nil)) (pe_op op_add (pe_callB cl_lenS (by exact rfl) T.n_len PySem.boot_len (pa_cons (pv 1) pa_nil)) pe_int)) pa_nil)))
  (pss_cons (ps_for PassesOwn.never rfl (pi_str (pv 0)) (pg_name (i := 3) sc_lengths.nd rfl (Or.inl rfl)) (pss_cons (ps_set (i := 4) sc_lengths.nd rfl (Or.inl rfl) (pe_ix ix_list (pv 2) (pe_un un_neg pe_int) (fun _ _ => rfl)))
  (pss_cons (ps_set (i := 5) sc_lengths.nd rfl (Or.inl rfl) (pe_lst (pa_cons pe_int pa_nil)))
  (pss_cons (ps_for PassesOwn.never rfl (pi_enumS (by exact rfl) T.n_enumerate (pa_cons (pv 1) pa_nil)) (pg_tup rfl (pgs_cons (pg_name (i := 6) sc_lengths.nd rfl (Or.inl rfl)) (pgs_cons (pg_name (i := 7) sc_lengths.nd rfl (Or.inl rfl)) pgs_nil))) (pss_cons (ps_set (i := 8) sc_lengths.nd rfl (Or.inl rfl) (pe_callB (cl_max2 rfl) (by exact rfl) T.n_max (by decide +kernel) (pa_cons (pe_ix ix_list (pv 4) (pe_op op_add (pv 6) pe_int) (fun _ _ => rfl)) (pa_cons (pe_ix ix_list (pv 5) (pv 6) (fun _ _ => rfl)) pa_nil))))
  (pss_cons (ps_if (pt_cmpR op_eq (pv 3) (pv 7) (nomark _)) (pss_one (ps_set (i := 8) sc_lengths.nd rfl (Or.inl rfl) (pe_op op_add (pe_ix ix_list (pv 4) (pv 6) (fun _ _ => rfl)) pe_int))) pss_nil)
  (pss_one (ps_expr (pe_bm PySem.F.plainAttrs_list PySem.F.slot_list_append PySem.F.type_list_append mt_append (pv 5) (pa_cons (pv 8) pa_nil)))))))
  (pss_one (ps_expr (pe_bm PySem.F.plainAttrs_list PySem.F.slot_list_append PySem.F.type_list_append mt_append (pv 2) (pa_cons (pv 5) pa_nil))))))))
  (pss_one (ps_ret (pv 2))))))
theorem r_lengths (T : Txt w K mg) (vs : List V) (H : Hp) (Q : VK) (E : XK) (h : sp_lengths K vs H Q E) : t_lengths K { nx := fun _ H' => Q .non H', rt := Q } (start ["side", "top", "table", "sign", "above", "row", "at", "other", "most"] vs) H := by
  obtain ⟨S, a, b, rfl, eS, hra, hrb, k⟩ := h
  have ha := hra.1
  have hb := hrb.1
  refine x_dropC (c_call (va_2 (val_var rfl) (val_var rfl)) ⟨a, b, rfl, hra, hrb, fun H1 e1 => ?_⟩)
  have hz : (b.length : Int) + 1 = ((b.length + 1 : Nat) : Int) := by omega
  refine x_setC ⟨by show 1 ≤ sizeLine; decide, fun t ht => (val_I0 (val_lenS (val_var rfl) (by omega)) val_c) _ ⟨t, _, _, rfl, rfl, upd_same, by omega, by omega, ?_, fun r hr => ⟨by show 1 ≤ sizeLine; decide, fun l hl => ?_⟩⟩⟩
  · rw [hz, Int.toNat_natCast]; exact small5 (by simp only [List.length_cons, List.length_nil]; omega)
  have e0 : (List.replicate ((b.length : Int) + 1).toNat [V.int 0]).flatten = rowV (lc a b 0) (b.length + 1) := by
    rw [hz, Int.toNat_natCast, show (List.replicate (b.length + 1) [V.int 0]).flatten = List.replicate (b.length + 1) (V.int 0) by simp, rowV_rep]
    exact rowV_ext fun i _ => (lc_0 a b i).symm
  rw [e0] at hl ⊢
  have g0 := (((Gw.refl eS).any e1).mut ht).put (o := .lst (rowV (lc a b 0) (b.length + 1))) hr
  refine x_forS (val_var rfl) (fun n σ' H' => ∃ (S' : Hp) (vs : List V) (z3 z4 z5 z6 z7 z8 : Option V), σ' = [some (.str (tx a)), some (.str (tx b)), some (.ref l), z3, z4, z5, z6, z7, z8] ∧ Gw S H S' H' ∧ S' l = none ∧ H' l = some (.lst vs) ∧ AtA S' vs ((tabI (lc a b) (n + 1) (b.length + 1)).map eIL)) ⟨_, [.ref r], none, none, none, none, none, none, rfl, g0.mut hl, g0.freeS hl, upd_same, .cons (At.row upd_same) .nil⟩ ?_ ?_
  · rintro n c σ' H' hc ⟨S1, vs, z3, z4, z5, z6, z7, z8, rfl, g, sl, hw, hA⟩
    have hH0 : H l = none := g0.free hl
    have hn := hA.lenM
    rw [tabI_len] at hn
    have hna : n < a.length := (List.getElem?_eq_some_iff.mp hc).1
    obtain ⟨v, hv, hat⟩ := hA.getF (tabI_get (lc a b) (n := b.length + 1) (Nat.lt_succ_self n))
    obtain ⟨pa, rfl, hpa⟩ := hat.row_
    have hpa' := g.i _ _ hpa
    refine x_set (val_ixL (val_var rfl) (val_neg val_c) hw (at_neg1 (by rw [hn]; exact hv))) ?_
    refine x_setC (c_lst (va_1 val_c) (by simp) fun q hq => ?_)
    have sq := g.freeS hq
    have hql : q ≠ l := fun e => by rw [e, hw] at hq; cases hq
    refine x_forES (val_var rfl) (fun j σ' H' => ∃ (z6 z7 z8 : Option V), σ' = [some (.str (tx a)), some (.str (tx b)), some (.ref l), some (.str (tx [c])), some (.ref pa), some (.ref q), z6, z7, z8] ∧ Gw S H S1 H' ∧ H' l = some (.lst vs) ∧ H' q = some (.lst (rowV (lc a b (n + 1)) (j + 1)))) ⟨z6, z7, z8, rfl, g.mut hq, by rw [upd_ne hql.symm]; exact hw, ?_⟩ ?_ ?_
    · rw [upd_same]
      unfold rowV
      simp [lc_s0]
    · rintro j d σ' H2 T hd ⟨y6, y7, y8, rfl, g2, hw2, hq2⟩ hT
      have hjb : j < b.length := (List.getElem?_eq_some_iff.mp hd).1
      have g3 := g2.mut (o := .tup [.int (j : Nat), .str (tx [d])]) hT
      have hpa3 := g3.i _ _ hpa
      have hq3 := upd_get (o := .tup [.int (j : Nat), .str (tx [d])]) hq2 hT
      have hw3 := upd_get (o := .tup [.int (j : Nat), .str (tx [d])]) hw2 hT
      refine x_set (val_max2 (val_ixL (val_var rfl) (val_I0 (val_var rfl) val_c) hpa3 (rowV_at _ (i := j + 1) (by omega) (by omega))) (val_ixL (val_var rfl) (val_var rfl) hq3 (rowV_at _ rfl (by omega)))) ?_
      refine x_when (b := decide (c = d)) (Ans.to (ans_te (val_eq (val_var rfl) (val_var rfl) rfl)) (by rw [tx_dec]; simp)) (fun e => y_set (v := .int (lc a b (n + 1) (j + 1) : Nat)) (val_is (val_I0 (val_ixL (val_var rfl) (val_var rfl) hpa3 (rowV_at _ rfl (by omega))) val_c) ?_) ?_) (fun e => ?_)
      · have e := of_decide_eq_true e
        rw [lc_ss, if_pos (by rw [hc, hd, e])]
        congr 1
      · refine y_app (val_var rfl) (val_var rfl) hq3 (by rw [rowV_len]; omega) ⟨_, _, _, rfl, g3.set (g.free hq) sq, by rw [upd_ne hql.symm]; exact hw3, by rw [upd_same, rowV_succ (lc a b (n + 1)) (j + 1)]⟩
      · have e := of_decide_eq_false e
        refine y_app (v := .int (lc a b (n + 1) (j + 1) : Nat)) (val_var rfl) (val_is (val_var rfl) ?_) hq3 (by rw [rowV_len]; omega) ⟨_, _, _, rfl, g3.set (g.free hq) sq, by rw [upd_ne hql.symm]; exact hw3, by rw [upd_same, rowV_succ (lc a b (n + 1)) (j + 1)]⟩
        have e2 : lc a b (n + 1) (j + 1) = max (lc a b n (j + 1)) (lc a b (n + 1) j) := by rw [lc_ss, if_neg (by rw [hc, hd]; simpa using e)]
        rw [e2]
        congr 1
        split <;> omega
    · rintro σ' H2 ⟨y6, y7, y8, rfl, g2, hw2, hq2⟩
      have g3 := g2.frz (g.free hq) sq hq2
      have sl3 : upd S1 q (.lst (rowV (lc a b (n + 1)) (b.length + 1))) l = none := by rw [upd_ne hql.symm]; exact sl
      refine y_app (val_var rfl) (val_var rfl) hw2 (by omega) ?_
      refine ⟨_, vs ++ [.ref q], _, _, _, _, _, _, rfl, g3.set hH0 sl3, sl3, upd_same, ?_⟩
      rw [tabI_succ (lc a b) (n + 1)]
      exact (hA.mono (Ex.new sq)).snocM (At.row upd_same)
  · rintro σ' H' ⟨S1, vs, z3, z4, z5, z6, z7, z8, rfl, g, sl, hw, hA⟩
    refine x_ret (val_var rfl) (k _ _ _ (g.frz (g0.free hl) sl hw) ?_)
    exact .lst upd_same (hA.mono (Ex.new sl))
theorem ok_lengths (T : Txt w K mg) : Df P w K mg base 4 (He.ga K "lengths") ["side", "top"] (sp_lengths K) :=
  df_of T.f_lengths sc_lengths (fun _ _ _ _ _ _ us hl => match us, hl with | [_, _], _ => rfl) (fun vs H Q E h => by
    obtain ⟨S, a, b, rfl, _⟩ := h
    rfl) (fun cdv A outer s H E hr => w_lengths T cdv A outer s H E hr) (fun vs H Q E h => r_lengths T vs H Q E h)
end
end Pk
namespace Pk
open PySem PySem.Spec
open PyProof.Rows L2
/-! ## longest -/
theorem sc_longest : FnScope ["side", "top"] ["side", "top"] (defScope s_longest) := ⟨rfl, rfl, rfl, by decide +kernel, rfl, by decide +kernel, by decide +kernel⟩
def sp_longest (K : PySem.W.Frag) : Sp := fun vs H Q _ => ∃ (a b : List Nat), vs = [.str (tx a), .str (tx b)] ∧ RowP a ∧ RowP b ∧ ∀ H', Ex H H' → Q (.int (lc a b a.length b.length : Nat)) H'
def t_longest (K : PySem.W.Frag) : TS := (tRet (tOp (rIxL K) (tOp (rIxL K) (tCall (sp_lengths K) [] E0 (tCons (tVar 0) (tCons (tVar 1) tNil))) (tUn oNeg (tC (.int 1)))) (tUn oNeg (tC (.int 1)))))
section
variable {P : Program} {w : World} {K : PySem.W.Frag} {mg : Str → Option Value} {base : Heap}
theorem w_longest (T : Txt w K mg) (cdv : Value) (A : Around) (outer : List Env) (s : Shared) (H : Hp) (E : XK) (hr : Room 4 (A.deeper (envOfC "longest" (defScope s_longest) s.heap.objs.size (He.ga K "longest") cdv))) :
    PSs (cxOf CX0 P w K mg base ["side", "top"] "longest" (defScope s_longest) (He.ga K "longest") cdv A outer s H E).nox (defBody s_longest) (t_longest K) := by
  obtain ⟨⟨fd_lengths, F_lengths, b_lengths⟩, k_lengths⟩ := ok_lengths (P := P) (base := base) T
  exact (pss_one (ps_ret (pe_ix ix_list (pe_ix ix_list (pe_call F_lengths (hr.mono (by decide)) (by exact rfl) T.g_lengths k_lengths b_lengths .nil pass0 (pa_cons (pv 0) (pa_cons (pv 1) pa_nil))) (pe_un un_neg pe_int) (fun _ _ => rfl)) (pe_un un_neg pe_int) (fun _ _ => rfl))))
theorem r_longest (T : Txt w K mg) (vs : List V) (H : Hp) (Q : VK) (E : XK) (h : sp_longest K vs H Q E) : t_longest K { nx := fun _ H' => Q .non H', rt := Q } (start ["side", "top"] vs) H := by
  obtain ⟨a, b, rfl, ha, hb, k⟩ := h
  refine x_retC ?_
  refine c_call (va_2 (val_var rfl) (val_var rfl)) ⟨fun _ => none, a, b, rfl, (fun _ _ e => by cases e), ha, hb, fun S' H' v' g hv => ?_⟩
  obtain ⟨p, vs, rfl, hp, hA⟩ := hv.lst_
  have hn := hA.lenM
  rw [tabI_len] at hn
  obtain ⟨v, hv, hat⟩ := hA.getF (tabI_get (lc a b) (n := b.length + 1) (Nat.lt_succ_self a.length))
  obtain ⟨pa, rfl, hpa⟩ := hat.row_
  refine (val_neg val_c) _ ⟨p, vs, _, _, rfl, rfl, SqL.of (g.i _ _ hp), at_neg1 (by rw [hn]; exact hv), (val_neg val_c) _ ⟨pa, _, _, _, rfl, rfl, SqL.of (g.i _ _ hpa), at_neg1 ?_, k H' g.h⟩⟩
  rw [rowV_len]
  exact rm_get (by omega)
theorem ok_longest (T : Txt w K mg) : Df P w K mg base 5 (He.ga K "longest") ["side", "top"] (sp_longest K) :=
  df_of T.f_longest sc_longest (fun _ _ _ _ _ _ us hl => match us, hl with | [_, _], _ => rfl) (fun vs H Q E h => by
    obtain ⟨a, b, rfl, _⟩ := h
    rfl) (fun cdv A outer s H E hr => w_longest T cdv A outer s H E hr) (fun vs H Q E h => r_longest T vs H Q E h)
end
end Pk
namespace Pk
open PySem PySem.Spec
open PyProof.Rows L2
/-! ## cost -/
theorem sc_cost : FnScope ["side", "top"] ["side", "top"] (defScope s_cost) := ⟨rfl, rfl, rfl, by decide +kernel, rfl, by decide +kernel, by decide +kernel⟩
def sp_cost (K : PySem.W.Frag) : Sp := fun vs H Q _ => ∃ (a b : List Nat), vs = [.str (tx a), .str (tx b)] ∧ Plain a ∧ Plain b ∧ ∀ H', Ex H H' → Q (.int (ed a b a.length b.length : Nat)) H'
def t_cost (K : PySem.W.Frag) : TS := (tSeq (tDrop (tCall (sp_need_plains K) [] E0 (tCons (tVar 0) (tCons (tVar 1) tNil))))
  (tRet (tOp oSub (tOp oAdd (tCB cLenS (tCons (tVar 0) tNil)) (tCB cLenS (tCons (tVar 1) tNil))) (tCall (sp_longest K) [] E0 (tCons (tCall (sp_parted K) [] E0 (tCons (tVar 0) tNil)) (tCons (tCall (sp_parted K) [] E0 (tCons (tVar 1) tNil)) tNil))))))
section
variable {P : Program} {w : World} {K : PySem.W.Frag} {mg : Str → Option Value} {base : Heap}
theorem w_cost (T : Txt w K mg) (cdv : Value) (A : Around) (outer : List Env) (s : Shared) (H : Hp) (E : XK) (hr : Room 5 (A.deeper (envOfC "cost" (defScope s_cost) s.heap.objs.size (He.ga K "cost") cdv))) :
    PSs (cxOf CX0 P w K mg base ["side", "top"] "cost" (defScope s_cost) (He.ga K "cost") cdv A outer s H E).nox (defBody s_cost) (t_cost K) := by
  obtain ⟨⟨fd_need_plains, F_need_plains, b_need_plains⟩, k_need_plains⟩ := ok_need_plains (P := P) (base := base) T
  obtain ⟨⟨fd_parted, F_parted, b_parted⟩, k_parted⟩ := ok_parted (P := P) (base := base) T
  obtain ⟨⟨fd_longest, F_longest, b_longest⟩, k_longest⟩ := ok_longest (P := P) (base := base) T
  exact (pss_cons (ps_expr (pe_call F_need_plains (hr.mono (by decide)) (by exact rfl) T.g_need_plains k_need_plains b_need_plains .nil pass0 (pa_cons (pv 0) (pa_cons (pv 1) pa_nil))))
  (pss_one (ps_ret (pe_op op_sub (pe_op op_add (pe_callB cl_lenS (by exact rfl) T.n_len PySem.boot_len (pa_cons (pv 0) pa_nil)) (pe_callB cl_lenS (by exact rfl) T.n_len PySem.boot_len (pa_cons (pv 1) pa_nil))) (pe_call F_longest (hr.mono (by decide)) (by exact rfl) T.g_longest k_longest b_longest .nil pass0 (pa_cons (pe_call F_parted (hr.mono (by decide)) (by exact rfl) T.g_parted k_parted b_parted .nil pass0 (pa_cons (pv 0) pa_nil)) (pa_cons (pe_call F_parted (hr.mono (by decide)) (by exact rfl) T.g_parted k_parted b_parted .nil pass0 (pa_cons (pv 1) pa_nil)) pa_nil)))))))
theorem r_cost (T : Txt w K mg) (vs : List V) (H : Hp) (Q : VK) (E : XK) (h : sp_cost K vs H Q E) : t_cost K { nx := fun _ H' => Q .non H', rt := Q } (start ["side", "top"] vs) H := by
  obtain ⟨a, b, rfl, ha, hb, k⟩ := h
  refine x_dropC (c_call (va_2 (val_var rfl) (val_var rfl)) ⟨a, b, rfl, ha, hb, fun H1 e1 => ?_⟩)
  have h1 := ha.1
  have h2 := hb.1
  refine x_retC ((val_I0 (val_lenS (val_var rfl) (by omega)) (val_lenS (val_var rfl) (by omega))) _ ?_)
  refine ⟨_, rfl, a, rfl, ha, fun H2 e2 => ⟨_, rfl, b, rfl, hb, fun H3 e3 => ⟨part a, part b, rfl, part_row ha, part_row hb, fun H4 e4 => ⟨_, _, rfl, rfl, ?_⟩⟩⟩⟩
  have e := lc_part ha hb a.length b.length (Nat.le_refl _) (Nat.le_refl _)
  rw [part_length, part_length]
  have e5 : ((a.length : Int) + (b.length : Int) - (lc (part a) (part b) (2 * a.length) (2 * b.length) : Nat)) = ((ed a b a.length b.length : Nat) : Int) := by omega
  show Q (V.int ((a.length : Int) + (b.length : Int) - (lc (part a) (part b) (2 * a.length) (2 * b.length) : Nat))) H4
  rw [e5]
  exact k H4 (((e1.trans e2).trans e3).trans e4)
theorem ok_cost (T : Txt w K mg) : Df P w K mg base 6 (He.ga K "cost") ["side", "top"] (sp_cost K) :=
  df_of T.f_cost sc_cost (fun _ _ _ _ _ _ us hl => match us, hl with | [_, _], _ => rfl) (fun vs H Q E h => by
    obtain ⟨a, b, rfl, _⟩ := h
    rfl) (fun cdv A outer s H E hr => w_cost T cdv A outer s H E hr) (fun vs H Q E h => r_cost T vs H Q E h)
end
end Pk
namespace Pk
open PySem PySem.Spec
open PyProof.Rows L2
/-! ## _law_pays -/
theorem sc_law_pays : FnScope ["_law_changes", "_law_change"] ["_law_changes"] (defScope s_law_pays) := ⟨rfl, rfl, rfl, by decide +kernel, rfl, by decide +kernel, by decide +kernel⟩
def sp_law_pays (K : PySem.W.Frag) : Sp := fun vs H Q _ => ∃ (S : Hp) (v : V) (cs : List Ch), vs = [v] ∧ Ex S H ∧ At S v (eChs cs) ∧ cs.length ≤ 1000 ∧ ∀ H', Ex H H' → Q (.int (pays cs : Nat)) H'
def t_law_pays (K : PySem.W.Frag) : TS := (tRet (tCB (cLenL K) (tCons (tLc (iList K (tVar 0)) (gName 1) (tTest (tOp rNe (tOp (rIxT K) (tVar 1) (tC (.int 0))) (tC (.str "keep")))) (tVar 1) [1]) tNil)))
section
variable {P : Program} {w : World} {K : PySem.W.Frag} {mg : Str → Option Value} {base : Heap}
theorem w_law_pays (T : Txt w K mg) (cdv : Value) (A : Around) (outer : List Env) (s : Shared) (H : Hp) (E : XK) (hr : Room 0 (A.deeper (envOfC "_law_pays" (defScope s_law_pays) s.heap.objs.size (He.ga K "_law_pays") cdv))) :
    PSs (cxOf CX0 P w K mg base ["_law_changes", "_law_change"] "_law_pays" (defScope s_law_pays) (He.ga K "_law_pays") cdv A outer s H E).nox (defBody s_law_pays) (t_law_pays K) := by
  exact (pss_one (ps_ret (pe_callB cl_lenL (by exact rfl) T.n_len PySem.boot_len (pa_cons (pe_lc (own := [("_law_change", 1)]) (g := (gName 1)) (tt := (tTest (tOp rNe (tOp (rIxT K) (tVar 1) (tC (.int 0))) (tC (.str "keep"))))) rfl sc_law_pays.nd (pi_list (pv 0)) (blkOk_by (N := ["_law_changes", "_law_change"]) (sc := defScope s_law_pays) (by decide +kernel)) (fun _ _ _ _ _ => (pg_name (i := 1) sc_law_pays.nd rfl (Or.inl rfl))) (fun _ _ _ _ _ => (pts_one (pt_cmpR op_ne (pe_ix ix_tup (pv 1) pe_int (fun _ _ => rfl)) pe_str (nomark _)))) (fun _ _ _ _ _ => (pv 1))) pa_nil))))
theorem r_law_pays (T : Txt w K mg) (vs : List V) (H : Hp) (Q : VK) (E : XK) (h : sp_law_pays K vs H Q E) : t_law_pays K { nx := fun _ H' => Q .non H', rt := Q } (start ["_law_changes", "_law_change"] vs) H := by
  obtain ⟨S, v, cs, rfl, eS, hv, hz, k⟩ := h
  obtain ⟨p, vs, rfl, hp, ha⟩ := hv.chs_
  have hn := ha.lenM
  refine x_retC (c_arg1 (c_tlc (S := S) (fun R r => ⟨_, rfl, p, rfl, ⟨vs, SqL.of (eS _ _ hp)⟩, r⟩) (walk_list (K := K) (a := p) (xs := vs)) (fun n S acc => acc.length = pays (cs.take n)) eS (fun H' e => SqL.of (e _ _ hp)) rfl (fun n S' H' acc x H'' R L hk g1 hF hy kR kL => ?_) (fun D S' H' acc hF g1 sD hD eD => ?_)))
  · obtain ⟨rfl, hx⟩ := hy
    obtain ⟨c, hcn, hat⟩ := ha.getM hx
    obtain ⟨q, rfl, hq⟩ := hat.ch_
    have hq' := g1.i _ _ (g1.s _ _ hq)
    have hl : acc.length < 100000 := by
      rw [hF]
      have : pays (cs.take n) ≤ (cs.take n).length := List.length_filter_le _ _
      rw [List.length_take] at this
      omega
    have et : pays (cs.take (n + 1)) = pays (cs.take n) + c.pay := by rw [List.take_succ, hcn, pays_app]; exact congrArg _ (pays_one c)
    rw [vCh_eq] at hq'
    refine ⟨rfl, c_test (b := !decide (V.str c.kd = V.str "keep")) (ans_te (val_ne (val_ixT (val_var rfl) val_c hq' at_0) val_c rfl)) (fun hb => (val_var rfl) R (kR _ S' _ (Gw.refl g1.i) ?_ hl)) (fun hb => kL S' _ (Gw.refl g1.i) ?_)⟩
    · rw [et, List.length_append, hF]
      cases c with
      | kp a => rw [show (Ch.kp a).kd = "keep" from rfl, decT] at hb; cases hb
      | _ => rfl
    · rw [et, hF]
      cases c with
      | kp a => rfl
      | cg a b => rw [show (Ch.cg a b).kd = "change" from rfl, decV ne_ck] at hb; cases hb
      | ou a => rw [show (Ch.ou a).kd = "out" from rfl, decV ne_ok] at hb; cases hb
      | im a => rw [show (Ch.im a).kd = "in" from rfl, decV ne_ik] at hb; cases hb
  · refine ⟨D, acc, rfl, .inl (SqL.of eD), ?_⟩
    rw [hF, List.take_of_length_le (by omega)]
    exact k H' g1.h
theorem ok_law_pays (T : Txt w K mg) : Df P w K mg base 1 (He.ga K "_law_pays") ["_law_changes"] (sp_law_pays K) :=
  df_of T.f_law_pays sc_law_pays (fun _ _ _ _ _ _ us hl => match us, hl with | [_], _ => rfl) (fun vs H Q E h => by
    obtain ⟨S, v, cs, rfl, _⟩ := h
    rfl) (fun cdv A outer s H E hr => w_law_pays T cdv A outer s H E hr) (fun vs H Q E h => r_law_pays T vs H Q E h)
end
end Pk
namespace Pk
open PySem PySem.Spec
open PyProof.Rows L2
/-! ## is_letter -/
theorem sc_is_letter : FnScope ["thing"] ["thing"] (defScope s_is_letter) := ⟨rfl, rfl, rfl, by decide +kernel, rfl, by decide +kernel, by decide +kernel⟩
def sp_is_letter (K : PySem.W.Frag) : Sp := fun vs H Q _ => ∃ (c : Nat), vs = [.str (tx [c])] ∧ isLt c ∧ Q (.bl true) H
def t_is_letter (K : PySem.W.Frag) : TS := (tRet (tAndV (tCB (rIsi K) (tCons (tVar 0) (tCons (tC (.ty "str")) tNil))) (tAndV (tOp rEq (tCB cLenS (tCons (tVar 0) tNil)) (tC (.int 1))) (tOp rInS (tVar 0) (tC (.str "abcdefghijklmnopqrstuvwxyz"))))))
section
variable {P : Program} {w : World} {K : PySem.W.Frag} {mg : Str → Option Value} {base : Heap}
theorem w_is_letter (T : Txt w K mg) (cdv : Value) (A : Around) (outer : List Env) (s : Shared) (H : Hp) (E : XK) (hr : Room 0 (A.deeper (envOfC "is_letter" (defScope s_is_letter) s.heap.objs.size (He.ga K "is_letter") cdv))) :
    PSs (cxOf CX0 P w K mg base ["thing"] "is_letter" (defScope s_is_letter) (He.ga K "is_letter") cdv A outer s H E).nox (defBody s_is_letter) (t_is_letter K) := by
  obtain ⟨tk_LETTERS, hc_LETTERS⟩ := T.c_LETTERS
  exact (pss_one (ps_ret (pe_and (pe_callB call_isi (by exact rfl) T.n_isinstance (by decide +kernel) (pa_cons (pv 0) (pa_cons (pe_bltn (v := .ty "str") (by exact rfl) T.n_str (by decide +kernel) rfl) pa_nil))) (pe_and (pe_cmpR op_eq (pe_callB cl_lenS (by exact rfl) T.n_len PySem.boot_len (pa_cons (pv 0) pa_nil)) pe_int (nomark _)) (pe_one (pe_cmpR op_inS (pv 0) (pe_glob (v := .str "abcdefghijklmnopqrstuvwxyz") (by exact rfl) hc_LETTERS ⟨_, rfl⟩) (by rfl)))))))
theorem r_is_letter (T : Txt w K mg) (vs : List V) (H : Hp) (Q : VK) (E : XK) (h : sp_is_letter K vs H Q E) : t_is_letter K { nx := fun _ H' => Q .non H', rt := Q } (start ["thing"] vs) H := by
  obtain ⟨c, rfl, hc, k⟩ := h
  refine x_ret (val_andV (a := true) (b := true) (val_isi (val_var rfl) val_c (.ty _) (.base (.str _)) (kit_ty (by decide +kernel))) fun _ => val_andV (a := true) (b := true) (val_bl (val_eq (val_lenS (l := [c]) (val_var rfl) (by simp)) val_c rfl) ?_) fun _ => val_bl (val_inS (c := c) (val_var rfl) val_c) ?_) k
  · exact decide_eq_true rfl
  · exact decide_eq_true ((letters_mem c).mpr hc)
theorem ok_is_letter (T : Txt w K mg) : Df P w K mg base 1 (He.ga K "is_letter") ["thing"] (sp_is_letter K) :=
  df_of T.f_is_letter sc_is_letter (fun _ _ _ _ _ _ us hl => match us, hl with | [_], _ => rfl) (fun vs H Q E h => by
    obtain ⟨c, rfl, _⟩ := h
    rfl) (fun cdv A outer s H E hr => w_is_letter T cdv A outer s H E hr) (fun vs H Q E h => r_is_letter T vs H Q E h)
end
end Pk
namespace Pk
open PySem PySem.Spec
open PyProof.Rows L2
/-! ## is_change -/
theorem sc_is_change : FnScope ["thing", "letter"] ["thing"] (defScope s_is_change) := ⟨rfl, rfl, rfl, by decide +kernel, rfl, by decide +kernel, by decide +kernel⟩
def sp_is_change (K : PySem.W.Frag) : Sp := fun vs H Q _ => ∃ (c : Ch) (p : Addr), vs = [.ref p] ∧ H p = some (.tup (vCh c)) ∧ c.ok ∧ ∀ H', Ex H H' → Q (.bl true) H'
def t_is_change (K : PySem.W.Frag) : TS := (tSeq (tIfS (tOr (tNot (tB (tCB (rIsi K) (tCons (tVar 0) (tCons (tC (.ty "tuple")) tNil))))) (tOr (tTest (tOp oLt (tCB (cLenL K) (tCons (tVar 0) tNil)) (tC (.int 2)))) (tNot (tB (tCB (rIsi K) (tCons (tOp (rIxT K) (tVar 0) (tC (.int 0))) (tCons (tC (.ty "str")) tNil))))))) (tRet (tC (.bl false))) tNext)
  (tSeq (tIfS (tOr (tTest (tOp rNe (tKget K (He.ga K "SIZES") (tC (.ref (He.ga K "SIZES"))) (tOp (rIxT K) (tVar 0) (tC (.int 0))) (tC (.int 0))) (tCB (cLenL K) (tCons (tVar 0) tNil)))) (tNot (tB (tCB (rAll K) (tCons (tLc (iTup K (tSl (rSlT K) (tVar 0) (tPart (tC (.int 1))) tNoPart)) (gName 1) tYes (tCall (sp_is_letter K) [] E0 (tCons (tVar 1) tNil)) [1]) tNil))))) (tRet (tC (.bl false))) tNext)
  (tRet (tOrV (tOp rNe (tOp (rIxT K) (tVar 0) (tC (.int 0))) (tC (.str "change"))) (tOp rNe (tOp (rIxT K) (tVar 0) (tC (.int 1))) (tOp (rIxT K) (tVar 0) (tC (.int 2))))))))
section
variable {P : Program} {w : World} {K : PySem.W.Frag} {mg : Str → Option Value} {base : Heap}
theorem w_is_change (T : Txt w K mg) (cdv : Value) (A : Around) (outer : List Env) (s : Shared) (H : Hp) (E : XK) (hr : Room 1 (A.deeper (envOfC "is_change" (defScope s_is_change) s.heap.objs.size (He.ga K "is_change") cdv))) :
    PSs (cxOf CX0 P w K mg base ["thing", "letter"] "is_change" (defScope s_is_change) (He.ga K "is_change") cdv A outer s H E).nox (defBody s_is_change) (t_is_change K) := by
  obtain ⟨⟨fd_is_letter, F_is_letter, b_is_letter⟩, k_is_letter⟩ := ok_is_letter (P := P) (base := base) T
  obtain ⟨esKD, nKD, hKD⟩ := T.c.tab 0 (t := ((fun K => He.ga K "SIZES"), ["keep", "change", "out", "in"])) rfl
  exact (pss_cons (ps_if (PW.pt (pw_or (pt_not (pt_val (pe_callB call_isi (by exact rfl) T.n_isinstance (by decide +kernel) (pa_cons (pv 0) (pa_cons (pe_bltn (v := .ty "tuple") (by exact rfl) T.n_tuple (by decide +kernel) rfl) pa_nil))))) (pw_or (pt_cmpR op_lt (pe_callB cl_lenL (by exact rfl) T.n_len PySem.boot_len (pa_cons (pv 0) pa_nil)) pe_int (nomark _)) (pw_or1 (pt_not (pt_val (pe_callB call_isi (by exact rfl) T.n_isinstance (by decide +kernel) (pa_cons (pe_ix ix_tup (pv 0) pe_int (fun _ _ => rfl)) (pa_cons (pe_bltn (v := .ty "str") (by exact rfl) T.n_str (by decide +kernel) rfl) pa_nil))))))))) (pss_one (ps_ret pe_bl)) pss_nil)
  (pss_cons (ps_if (PW.pt (pw_or (pt_cmpR op_ne (pe_kget hKD (pe_glob (v := .ref (He.ga K "SIZES")) (by exact rfl) T.g_SIZES rfl) (pe_ix ix_tup (pv 0) pe_int (fun _ _ => rfl)) pe_int ⟨rfl, rfl, rfl, rfl⟩) (pe_callB cl_lenL (by exact rfl) T.n_len PySem.boot_len (pa_cons (pv 0) pa_nil)) (nomark _)) (pw_or1 (pt_not (pt_val (pe_callB (cr_all rfl) (by exact rfl) T.n_all (by decide +kernel) (pa_cons (pe_lc (own := [("letter", 1)]) (g := (gName 1)) (tt := tYes) rfl sc_is_change.nd (pi_tup (pe_slice sl_tup (pv 0) (po_some pe_int) po_none)) (blkOk_by (N := ["thing", "letter"]) (sc := defScope s_is_change) (by decide +kernel)) (fun _ _ _ _ _ => (pg_name (i := 1) sc_is_change.nd rfl (Or.inl rfl))) (fun _ _ _ _ _ => pts_nil) (fun _ _ _ _ _ => (pe_call F_is_letter (hr.mono (by decide)) (by exact rfl) T.g_is_letter k_is_letter b_is_letter .nil pass0 (pa_cons (pv 1) pa_nil)))) pa_nil))))))) (pss_one (ps_ret pe_bl)) pss_nil)
  (pss_one (ps_ret (pe_or (pe_cmpR op_ne (pe_ix ix_tup (pv 0) pe_int (fun _ _ => rfl)) pe_str (nomark _)) (pe_one (pe_cmpR op_ne (pe_ix ix_tup (pv 0) pe_int (fun _ _ => rfl)) (pe_ix ix_tup (pv 0) pe_int (fun _ _ => rfl)) (nomark _))))))))
theorem r_is_change (T : Txt w K mg) (vs : List V) (H : Hp) (Q : VK) (E : XK) (h : sp_is_change K vs H Q E) : t_is_change K { nx := fun _ H' => Q .non H', rt := Q } (start ["thing", "letter"] vs) H := by
  obtain ⟨c, p, rfl, hp, hc, k⟩ := h
  rw [vCh_eq] at hp
  have hl := c.ls_len
  have hlen : (V.str c.kd :: c.ls.map fun a => V.str (tx [a])).length = c.ls.length + 1 := by simp
  refine x_no (ans_orW (a := false) (b := false) (Ans.to (ans_not (ans_val (val_isi (b := true) (val_var rfl) val_c (.ty _) (.base (.tup hp)) (kit_ty (by decide +kernel))))) rfl) fun _ => ans_orW (a := false) (b := false) (Ans.to (ans_te (val_I0 (val_lenT (val_var rfl) hp) val_c)) ?_) fun _ => Ans.to (ans_not (ans_val (val_isi (b := true) (val_ixT (val_var rfl) val_c hp at_0) val_c (.ty _) (.base (.str _)) (kit_ty (by decide +kernel))))) rfl) ?_
  · exact decide_eq_false (by rw [hlen]; omega)
  obtain ⟨u, hu, ru⟩ := sizes_of T.ex c
  refine or_f (Ans.to (ans_te (val_ne (val_kget (val_ixT (val_var rfl) val_c hp at_0) val_c hu ru) (val_lenT (val_var rfl) hp) rfl)) ?_) ?_
  · rw [hlen, decide_eq_true (congrArg V.int (by omega))]; rfl
  refine c_nota ⟨_, rfl, 1, rfl, p, _, rfl, SqT.of hp, ?_, fun q hq => ⟨q, rfl, ⟨_, SqT.of upd_same⟩, ?_⟩⟩
  · rintro ⟨h1, _⟩
    have e : HT.sIx (V.str c.kd :: c.ls.map fun a => V.str (tx [a])).length 0 (some ((1 : Nat) : Int)) = 0 := h1
    rw [HT.sIx_nat, hlen] at e
    omega
  have ecut : cutV (V.str c.kd :: c.ls.map fun a => V.str (tx [a])) (some 1) none = c.ls.map fun a => V.str (tx [a]) := by
    unfold cutV
    rw [show (some (1 : Int)) = some ((1 : Nat) : Int) from rfl, HT.sIx_nat, HT.sIx_none, hlen, show min 1 (c.ls.length + 1) = 1 by omega]
    show (c.ls.map fun a => V.str (tx [a])).take _ = _
    rw [List.take_of_length_le (by rw [List.length_map]; omega)]
  rw [ecut]
  refine c_lc (S := upd H q (.tup (c.ls.map fun a => V.str (tx [a])))) (walk_tup (xs := c.ls.map fun a => V.str (tx [a]))) (fun n S acc => acc = (List.replicate n true).map V.bl) (Ex.refl _) (fun H' e => SqT.of (e _ _ upd_same)) rfl (fun n S' H' acc x H'' R L hn g1 hF hy kR kL => ?_) (fun D S' H' acc hF g1 sD hD eD => ?_)
  · obtain ⟨rfl, hx⟩ := hy
    rw [List.getElem?_map] at hx
    obtain ⟨a, ha, rfl⟩ := Option.map_eq_some_iff.mp hx
    refine ⟨rfl, c_yes (c_call (va_1 (val_var rfl)) ⟨a, rfl, c.ok_ls hc a (List.mem_of_getElem? ha), kR _ S' H'' (Gw.refl g1.i) ?_ ?_⟩)⟩
    · rw [hF, List.replicate_succ', List.map_append]; rfl
    · rw [hF, List.length_map, List.length_replicate]
      rw [List.length_map] at hn
      omega
  · refine ⟨D, _, rfl, SqL.of (by rw [eD, hF]), ?_⟩
    rw [show ((List.replicate (c.ls.map fun a => V.str (tx [a])).length true).all id) = true by simp]
    refine ⟨true, rfl, iteF ?_⟩
    have e0 : Ex H H' := (Ex.new hq).trans g1.h
    have hp' := e0 _ _ hp
    refine val_orV (a := !decide (V.str c.kd = V.str "change")) (b := true) (val_ne (val_ixT (val_var rfl) val_c hp' at_0) val_c rfl) (fun hk => ?_) Q ?_
    · cases c with
      | cg a b =>
        refine val_bl (val_ne (val_ixT (val_var rfl) val_c hp' at_1) (val_ixT (val_var rfl) val_c hp' at_2) rfl) ?_
        rw [tx_dec, decide_eq_false (fun q => hc.2.2 (by injection q))]
        rfl
      | kp a => exact absurd hk (by rw [show (Ch.kp a).kd = "keep" from rfl, decV ne_kc]; decide)
      | ou a => exact absurd hk (by rw [show (Ch.ou a).kd = "out" from rfl, decV ne_oc]; decide)
      | im a => exact absurd hk (by rw [show (Ch.im a).kd = "in" from rfl, decV ne_ic]; decide)
    · rw [Bool.or_true]
      exact k H' e0
theorem ok_is_change (T : Txt w K mg) : Df P w K mg base 2 (He.ga K "is_change") ["thing"] (sp_is_change K) :=
  df_of T.f_is_change sc_is_change (fun _ _ _ _ _ _ us hl => match us, hl with | [_], _ => rfl) (fun vs H Q E h => by
    obtain ⟨c, p, rfl, _⟩ := h
    rfl) (fun cdv A outer s H E hr => w_is_change T cdv A outer s H E hr) (fun vs H Q E h => r_is_change T vs H Q E h)
end
end Pk
namespace Pk
open PySem PySem.Spec
open PyProof.Rows L2
/-! ## is_changes -/
theorem sc_is_changes : FnScope ["thing", "change"] ["thing"] (defScope s_is_changes) := ⟨rfl, rfl, rfl, by decide +kernel, rfl, by decide +kernel, by decide +kernel⟩
def sp_is_changes (K : PySem.W.Frag) : Sp := fun vs H Q _ => ∃ (S : Hp) (v : V) (cs : List Ch), vs = [v] ∧ Ex S H ∧ At S v (eChs cs) ∧ ChsOk cs ∧ ∀ H', Ex H H' → Q (.bl true) H'
def t_is_changes (K : PySem.W.Frag) : TS := (tSeq (tIfS (tOr (tNot (tB (tCB (rIsi K) (tCons (tVar 0) (tCons (tC (.ty "list")) tNil))))) (tTest (tOp oGt (tCB (cLenL K) (tCons (tVar 0) tNil)) (tC (.int 48))))) (tRet (tC (.bl false))) tNext)
  (tRet (tCB (rAll K) (tCons (tLc (iList K (tVar 0)) (gName 1) tYes (tCall (sp_is_change K) [] E0 (tCons (tVar 1) tNil)) [1]) tNil))))
section
variable {P : Program} {w : World} {K : PySem.W.Frag} {mg : Str → Option Value} {base : Heap}
theorem w_is_changes (T : Txt w K mg) (cdv : Value) (A : Around) (outer : List Env) (s : Shared) (H : Hp) (E : XK) (hr : Room 2 (A.deeper (envOfC "is_changes" (defScope s_is_changes) s.heap.objs.size (He.ga K "is_changes") cdv))) :
    PSs (cxOf CX0 P w K mg base ["thing", "change"] "is_changes" (defScope s_is_changes) (He.ga K "is_changes") cdv A outer s H E).nox (defBody s_is_changes) (t_is_changes K) := by
  obtain ⟨⟨fd_is_change, F_is_change, b_is_change⟩, k_is_change⟩ := ok_is_change (P := P) (base := base) T
  obtain ⟨tk_MOST_CHANGES, hc_MOST_CHANGES⟩ := T.c_MOST_CHANGES
  exact (pss_cons (ps_if (PW.pt (pw_or (pt_not (pt_val (pe_callB call_isi (by exact rfl) T.n_isinstance (by decide +kernel) (pa_cons (pv 0) (pa_cons (pe_bltn (v := .ty "list") (by exact rfl) T.n_list (by decide +kernel) rfl) pa_nil))))) (pw_or1 (pt_cmpR op_gt (pe_callB cl_lenL (by exact rfl) T.n_len PySem.boot_len (pa_cons (pv 0) pa_nil)) (pe_glob (v := .int 48) (by exact rfl) hc_MOST_CHANGES ⟨_, rfl⟩) (nomark _))))) (pss_one (ps_ret pe_bl)) pss_nil)
  (pss_one (ps_ret (pe_callB (cr_all rfl) (by exact rfl) T.n_all (by decide +kernel) (pa_cons (pe_lc (own := [("change", 1)]) (g := (gName 1)) (tt := tYes) rfl sc_is_changes.nd (pi_list (pv 0)) (blkOk_by (N := ["thing", "change"]) (sc := defScope s_is_changes) (by decide +kernel)) (fun _ _ _ _ _ => (pg_name (i := 1) sc_is_changes.nd rfl (Or.inl rfl))) (fun _ _ _ _ _ => pts_nil) (fun _ _ _ _ _ => (pe_call F_is_change (hr.mono (by decide)) (by exact rfl) T.g_is_change k_is_change b_is_change .nil pass0 (pa_cons (pv 1) pa_nil)))) pa_nil)))))
theorem r_is_changes (T : Txt w K mg) (vs : List V) (H : Hp) (Q : VK) (E : XK) (h : sp_is_changes K vs H Q E) : t_is_changes K { nx := fun _ H' => Q .non H', rt := Q } (start ["thing", "change"] vs) H := by
  obtain ⟨S, v, cs, rfl, eS, hv, hc, k⟩ := h
  obtain ⟨p, vs, rfl, hp, ha⟩ := hv.chs_
  have hp' := eS _ _ hp
  have hn := ha.lenM
  have hz := hc.1
  refine x_no (ans_orW (a := false) (b := false) (Ans.to (ans_not (ans_val (val_isi (b := true) (val_var rfl) val_c (.ty _) (.base (.lst hp')) (kit_ty (by decide +kernel))))) rfl) fun _ => Ans.to (ans_te (val_I0 (val_lenL (val_var rfl) hp') val_c)) (decide_eq_false (by omega))) ?_
  refine x_retC (c_arg1 (c_tlc (S := S) (fun R r => ⟨_, rfl, p, rfl, ⟨vs, SqL.of hp'⟩, r⟩) (walk_list (K := K) (a := p) (xs := vs)) (fun n S acc => acc = (List.replicate n true).map V.bl) eS (fun H' e => SqL.of (e _ _ hp)) rfl (fun n S' H' acc x H'' R L hn g1 hF hy kR kL => ?_) (fun D S' H' acc hF g1 sD hD eD => ?_)))
  · obtain ⟨rfl, hx⟩ := hy
    obtain ⟨c, hcn, hat⟩ := ha.getM hx
    obtain ⟨q, rfl, hq⟩ := hat.ch_
    refine ⟨rfl, c_yes (c_call (va_1 (val_var rfl)) ⟨c, q, rfl, g1.i _ _ (g1.s _ _ hq), hc.2 c (List.mem_of_getElem? hcn), fun H2 e2 => kR _ S' H2 ((Gw.refl g1.i).any e2) ?_ ?_⟩)⟩
    · rw [hF, List.replicate_succ', List.map_append]; rfl
    · rw [hF, List.length_map, List.length_replicate]; omega
  · refine ⟨D, _, rfl, SqL.of (by rw [eD, hF]), ?_⟩
    rw [show ((List.replicate vs.length true).all id) = true by simp]
    exact k H' g1.h
theorem ok_is_changes (T : Txt w K mg) : Df P w K mg base 3 (He.ga K "is_changes") ["thing"] (sp_is_changes K) :=
  df_of T.f_is_changes sc_is_changes (fun _ _ _ _ _ _ us hl => match us, hl with | [_], _ => rfl) (fun vs H Q E h => by
    obtain ⟨S, v, cs, rfl, _⟩ := h
    rfl) (fun cdv A outer s H E hr => w_is_changes T cdv A outer s H E hr) (fun vs H Q E h => r_is_changes T vs H Q E h)
end
end Pk
namespace Pk
open PySem PySem.Spec
open PyProof.Rows L2
/-! ## need_changes -/
theorem sc_need_changes : FnScope ["thing"] ["thing"] (defScope s_need_changes) := ⟨rfl, rfl, rfl, by decide +kernel, rfl, by decide +kernel, by decide +kernel⟩
def sp_need_changes (K : PySem.W.Frag) : Sp := fun vs H Q _ => ∃ (S : Hp) (v : V) (cs : List Ch), vs = [v] ∧ Ex S H ∧ At S v (eChs cs) ∧ ChsOk cs ∧ ∀ H', Ex H H' → Q (.non) H'
def t_need_changes (K : PySem.W.Frag) : TS := (tIfS (tNot (tB (tCall (sp_is_changes K) [] E0 (tCons (tVar 0) tNil)))) tNever tNext)
section
variable {P : Program} {w : World} {K : PySem.W.Frag} {mg : Str → Option Value} {base : Heap}
theorem w_need_changes (T : Txt w K mg) (cdv : Value) (A : Around) (outer : List Env) (s : Shared) (H : Hp) (E : XK) (hr : Room 3 (A.deeper (envOfC "need_changes" (defScope s_need_changes) s.heap.objs.size (He.ga K "need_changes") cdv))) :
    PSs (cxOf CX0 P w K mg base ["thing"] "need_changes" (defScope s_need_changes) (He.ga K "need_changes") cdv A outer s H E).nox (defBody s_need_changes) (t_need_changes K) := by
  obtain ⟨⟨fd_is_changes, F_is_changes, b_is_changes⟩, k_is_changes⟩ := ok_is_changes (P := P) (base := base) T
  exact (pss_one (ps_if (pt_not (pt_val (pe_call F_is_changes (hr.mono (by decide)) (by exact rfl) T.g_is_changes k_is_changes b_is_changes .nil pass0 (pa_cons (pv 0) pa_nil)))) (pss_one ps_never) pss_nil))
theorem r_need_changes (T : Txt w K mg) (vs : List V) (H : Hp) (Q : VK) (E : XK) (h : sp_need_changes K vs H Q E) : t_need_changes K { nx := fun _ H' => Q .non H', rt := Q } (start ["thing"] vs) H := by
  obtain ⟨S, v, cs, rfl, eS, hv, hc, k⟩ := h
  exact ⟨_, rfl, S, _, cs, rfl, eS, hv, hc, fun H1 e1 => ⟨true, rfl, k H1 e1⟩⟩
theorem ok_need_changes (T : Txt w K mg) : Df P w K mg base 4 (He.ga K "need_changes") ["thing"] (sp_need_changes K) :=
  df_of T.f_need_changes sc_need_changes (fun _ _ _ _ _ _ us hl => match us, hl with | [_], _ => rfl) (fun vs H Q E h => by
    obtain ⟨S, v, cs, rfl, _⟩ := h
    rfl) (fun cdv A outer s H E hr => w_need_changes T cdv A outer s H E hr) (fun vs H Q E h => r_need_changes T vs H Q E h)
end
end Pk
namespace Pk
open PySem PySem.Spec
open PyProof.Rows L2
/-! ## paid -/
theorem sc_paid : FnScope ["changes", "change"] ["changes"] (defScope s_paid) := ⟨rfl, rfl, rfl, by decide +kernel, rfl, by decide +kernel, by decide +kernel⟩
def sp_paid (K : PySem.W.Frag) : Sp := fun vs H Q _ => ∃ (S : Hp) (v : V) (cs : List Ch), vs = [v] ∧ Ex S H ∧ At S v (eChs cs) ∧ ChsOk cs ∧ ∀ H', Ex H H' → Q (.int (pays cs : Nat)) H'
def t_paid (K : PySem.W.Frag) : TS := (tSeq (tDrop (tCall (sp_need_changes K) [] E0 (tCons (tVar 0) tNil)))
  (tRet (tCB (cLenL K) (tCons (tLc (iList K (tVar 0)) (gName 1) (tTest (tOp rNe (tOp (rIxT K) (tVar 1) (tC (.int 0))) (tC (.str "keep")))) (tVar 1) [1]) tNil))))
section
variable {P : Program} {w : World} {K : PySem.W.Frag} {mg : Str → Option Value} {base : Heap}
theorem w_paid (T : Txt w K mg) (cdv : Value) (A : Around) (outer : List Env) (s : Shared) (H : Hp) (E : XK) (hr : Room 4 (A.deeper (envOfC "paid" (defScope s_paid) s.heap.objs.size (He.ga K "paid") cdv))) :
    PSs (cxOf CX0 P w K mg base ["changes", "change"] "paid" (defScope s_paid) (He.ga K "paid") cdv A outer s H E).nox (defBody s_paid) (t_paid K) := by
  obtain ⟨⟨fd_need_changes, F_need_changes, b_need_changes⟩, k_need_changes⟩ := ok_need_changes (P := P) (base := base) T
  exact (pss_cons (ps_expr (pe_call F_need_changes (hr.mono (by decide)) (by exact rfl) T.g_need_changes k_need_changes b_need_changes .nil pass0 (pa_cons (pv 0) pa_nil)))
  (pss_one (ps_ret (pe_callB cl_lenL (by exact rfl) T.n_len PySem.boot_len (pa_cons (pe_lc (own := [("change", 1)]) (g := (gName 1)) (tt := (tTest (tOp rNe (tOp (rIxT K) (tVar 1) (tC (.int 0))) (tC (.str "keep"))))) rfl sc_paid.nd (pi_list (pv 0)) (blkOk_by (N := ["changes", "change"]) (sc := defScope s_paid) (by decide +kernel)) (fun _ _ _ _ _ => (pg_name (i := 1) sc_paid.nd rfl (Or.inl rfl))) (fun _ _ _ _ _ => (pts_one (pt_cmpR op_ne (pe_ix ix_tup (pv 1) pe_int (fun _ _ => rfl)) pe_str (nomark _)))) (fun _ _ _ _ _ => (pv 1))) pa_nil)))))
theorem r_paid (T : Txt w K mg) (vs : List V) (H : Hp) (Q : VK) (E : XK) (h : sp_paid K vs H Q E) : t_paid K { nx := fun _ H' => Q .non H', rt := Q } (start ["changes", "change"] vs) H := by
  obtain ⟨S, v, cs, rfl, eS0, hv, hc, k0⟩ := h
  have hz := hc.1
  have hv2 := hv
  obtain ⟨p, vs, rfl, hp, ha⟩ := hv2.chs_
  have hn := ha.lenM
  refine x_dropC (c_call (va_1 (val_var rfl)) ⟨S, _, cs, rfl, eS0, hv, hc, fun H1 e1 => ?_⟩)
  have eS := eS0.trans e1
  have k : ∀ H', Ex H1 H' → Q (.int (pays cs : Nat)) H' := fun H' e => k0 H' (e1.trans e)
  refine x_retC (c_arg1 (c_tlc (S := S) (fun R r => ⟨_, rfl, p, rfl, ⟨vs, SqL.of (eS _ _ hp)⟩, r⟩) (walk_list (K := K) (a := p) (xs := vs)) (fun n S acc => acc.length = pays (cs.take n)) eS (fun H' e => SqL.of (e _ _ hp)) rfl (fun n S' H' acc x H'' R L hk g1 hF hy kR kL => ?_) (fun D S' H' acc hF g1 sD hD eD => ?_)))
  · obtain ⟨rfl, hx⟩ := hy
    obtain ⟨c, hcn, hat⟩ := ha.getM hx
    obtain ⟨q, rfl, hq⟩ := hat.ch_
    have hq' := g1.i _ _ (g1.s _ _ hq)
    have hl : acc.length < 100000 := by
      rw [hF]
      have : pays (cs.take n) ≤ (cs.take n).length := List.length_filter_le _ _
      rw [List.length_take] at this
      omega
    have et : pays (cs.take (n + 1)) = pays (cs.take n) + c.pay := by rw [List.take_succ, hcn, pays_app]; exact congrArg _ (pays_one c)
    rw [vCh_eq] at hq'
    refine ⟨rfl, c_test (b := !decide (V.str c.kd = V.str "keep")) (ans_te (val_ne (val_ixT (val_var rfl) val_c hq' at_0) val_c rfl)) (fun hb => (val_var rfl) R (kR _ S' _ (Gw.refl g1.i) ?_ hl)) (fun hb => kL S' _ (Gw.refl g1.i) ?_)⟩
    · rw [et, List.length_append, hF]
      cases c with
      | kp a => rw [show (Ch.kp a).kd = "keep" from rfl, decT] at hb; cases hb
      | _ => rfl
    · rw [et, hF]
      cases c with
      | kp a => rfl
      | cg a b => rw [show (Ch.cg a b).kd = "change" from rfl, decV ne_ck] at hb; cases hb
      | ou a => rw [show (Ch.ou a).kd = "out" from rfl, decV ne_ok] at hb; cases hb
      | im a => rw [show (Ch.im a).kd = "in" from rfl, decV ne_ik] at hb; cases hb
  · refine ⟨D, acc, rfl, .inl (SqL.of eD), ?_⟩
    rw [hF, List.take_of_length_le (by omega)]
    exact k H' g1.h
theorem ok_paid (T : Txt w K mg) : Df P w K mg base 5 (He.ga K "paid") ["changes"] (sp_paid K) :=
  df_of T.f_paid sc_paid (fun _ _ _ _ _ _ us hl => match us, hl with | [_], _ => rfl) (fun vs H Q E h => by
    obtain ⟨S, v, cs, rfl, _⟩ := h
    rfl) (fun cdv A outer s H E hr => w_paid T cdv A outer s H E hr) (fun vs H Q E h => r_paid T vs H Q E h)
end
end Pk
namespace Pk
open PySem PySem.Spec
open PyProof.Rows L2
/-! ## old_of -/
theorem sc_old_of : FnScope ["change"] ["change"] (defScope s_old_of) := ⟨rfl, rfl, rfl, by decide +kernel, rfl, by decide +kernel, by decide +kernel⟩
def sp_old_of (K : PySem.W.Frag) : Sp := fun vs H Q _ => ∃ (c : Ch) (p : Addr), vs = [.ref p] ∧ H p = some (.tup (vCh c)) ∧ Q (.str (tx c.ol)) H
def t_old_of (K : PySem.W.Frag) : TS := (tSeq (tIfS (tTest (tOp rEq (tOp (rIxT K) (tVar 0) (tC (.int 0))) (tC (.str "in")))) (tRet (tC (.str ""))) tNext)
  (tRet (tOp (rIxT K) (tVar 0) (tC (.int 1)))))
section
variable {P : Program} {w : World} {K : PySem.W.Frag} {mg : Str → Option Value} {base : Heap}
theorem w_old_of (T : Txt w K mg) (cdv : Value) (A : Around) (outer : List Env) (s : Shared) (H : Hp) (E : XK) (hr : Room 0 (A.deeper (envOfC "old_of" (defScope s_old_of) s.heap.objs.size (He.ga K "old_of") cdv))) :
    PSs (cxOf CX0 P w K mg base ["change"] "old_of" (defScope s_old_of) (He.ga K "old_of") cdv A outer s H E).nox (defBody s_old_of) (t_old_of K) := by
  exact (pss_cons (ps_if (pt_cmpR op_eq (pe_ix ix_tup (pv 0) pe_int (fun _ _ => rfl)) pe_str (nomark _)) (pss_one (ps_ret pe_str)) pss_nil)
  (pss_one (ps_ret (pe_ix ix_tup (pv 0) pe_int (fun _ _ => rfl)))))
theorem r_old_of (T : Txt w K mg) (vs : List V) (H : Hp) (Q : VK) (E : XK) (h : sp_old_of K vs H Q E) : t_old_of K { nx := fun _ H' => Q .non H', rt := Q } (start ["change"] vs) H := by
  obtain ⟨c, p, rfl, hp, k⟩ := h
  cases c with
  | im b => exact x_when (b := true) (Ans.to (ans_te (val_eq (val_ixT (val_var rfl) val_c hp at_0) val_c rfl)) (decT _)) (fun _ => x_ret val_emp k) (fun z => by cases z)
  | kp a => exact x_when (b := false) (Ans.to (ans_te (val_eq (val_ixT (val_var rfl) val_c hp at_0) val_c rfl)) (decV ne_ki)) (fun z => by cases z) (fun _ => x_ret (val_ixT (val_var rfl) val_c hp at_1) k)
  | cg a b => exact x_when (b := false) (Ans.to (ans_te (val_eq (val_ixT (val_var rfl) val_c hp at_0) val_c rfl)) (decV ne_ci)) (fun z => by cases z) (fun _ => x_ret (val_ixT (val_var rfl) val_c hp at_1) k)
  | ou a => exact x_when (b := false) (Ans.to (ans_te (val_eq (val_ixT (val_var rfl) val_c hp at_0) val_c rfl)) (decV ne_oi)) (fun z => by cases z) (fun _ => x_ret (val_ixT (val_var rfl) val_c hp at_1) k)
theorem ok_old_of (T : Txt w K mg) : Df P w K mg base 1 (He.ga K "old_of") ["change"] (sp_old_of K) :=
  df_of T.f_old_of sc_old_of (fun _ _ _ _ _ _ us hl => match us, hl with | [_], _ => rfl) (fun vs H Q E h => by
    obtain ⟨c, p, rfl, _⟩ := h
    rfl) (fun cdv A outer s H E hr => w_old_of T cdv A outer s H E hr) (fun vs H Q E h => r_old_of T vs H Q E h)
end
end Pk
namespace Pk
open PySem PySem.Spec
open PyProof.Rows L2
/-! ## old_row -/
theorem sc_old_row : FnScope ["changes", "change"] ["changes"] (defScope s_old_row) := ⟨rfl, rfl, rfl, by decide +kernel, rfl, by decide +kernel, by decide +kernel⟩
def sp_old_row (K : PySem.W.Frag) : Sp := fun vs H Q _ => ∃ (S : Hp) (v : V) (cs : List Ch), vs = [v] ∧ Ex S H ∧ At S v (eChs cs) ∧ cs.length ≤ 1000 ∧ ∀ H', Ex H H' → Q (.str (tx (olds cs))) H'
def t_old_row (K : PySem.W.Frag) : TS := (tRet (tM1 (cJoin K) (tC (.str "")) (tLc (iList K (tVar 0)) (gName 1) tYes (tCall (sp_old_of K) [] E0 (tCons (tVar 1) tNil)) [1])))
section
variable {P : Program} {w : World} {K : PySem.W.Frag} {mg : Str → Option Value} {base : Heap}
theorem w_old_row (T : Txt w K mg) (cdv : Value) (A : Around) (outer : List Env) (s : Shared) (H : Hp) (E : XK) (hr : Room 1 (A.deeper (envOfC "old_row" (defScope s_old_row) s.heap.objs.size (He.ga K "old_row") cdv))) :
    PSs (cxOf CX0 P w K mg base ["changes", "change"] "old_row" (defScope s_old_row) (He.ga K "old_row") cdv A outer s H E).nox (defBody s_old_row) (t_old_row K) := by
  obtain ⟨⟨fd_old_of, F_old_of, b_old_of⟩, k_old_of⟩ := ok_old_of (P := P) (base := base) T
  exact (pss_one (ps_ret (pe_join pe_str (pe_lc (own := [("change", 1)]) (g := (gName 1)) (tt := tYes) rfl sc_old_row.nd (pi_list (pv 0)) (blkOk_by (N := ["changes", "change"]) (sc := defScope s_old_row) (by decide +kernel)) (fun _ _ _ _ _ => (pg_name (i := 1) sc_old_row.nd rfl (Or.inl rfl))) (fun _ _ _ _ _ => pts_nil) (fun _ _ _ _ _ => (pe_call F_old_of (hr.mono (by decide)) (by exact rfl) T.g_old_of k_old_of b_old_of .nil pass0 (pa_cons (pv 1) pa_nil)))))))
theorem r_old_row (T : Txt w K mg) (vs : List V) (H : Hp) (Q : VK) (E : XK) (h : sp_old_row K vs H Q E) : t_old_row K { nx := fun _ H' => Q .non H', rt := Q } (start ["changes", "change"] vs) H := by
  obtain ⟨S, v, cs, rfl, eS, hv, hz, k⟩ := h
  obtain ⟨p, vs, rfl, hp, ha⟩ := hv.chs_
  have hn := ha.lenM
  refine x_retC ⟨⟨_, rfl⟩, c_tlc (S := S) (fun R r => ⟨_, rfl, p, rfl, ⟨vs, SqL.of (eS _ _ hp)⟩, r⟩) (walk_list (K := K) (a := p) (xs := vs)) (fun n S acc => acc = (cs.take n).map fun c => V.str (tx c.ol)) eS (fun H' e => SqL.of (e _ _ hp)) rfl (fun n S' H' acc x H'' R L hk g1 hF hy kR kL => ?_) (fun D S' H' acc hF g1 sD hD eD => ?_)⟩
  · obtain ⟨rfl, hx⟩ := hy
    obtain ⟨c, hcn, hat⟩ := ha.getM hx
    obtain ⟨q, rfl, hq⟩ := hat.ch_
    refine ⟨rfl, c_yes (c_call (va_1 (val_var rfl)) ⟨c, q, rfl, g1.i _ _ (g1.s _ _ hq), kR _ S' _ (Gw.refl g1.i) ?_ ?_⟩)⟩
    · rw [hF, List.take_succ, hcn, List.map_append]; rfl
    · rw [hF, List.length_map, List.length_take]; omega
  · refine c_join (cs.map Ch.ol) ?_ ?_ ?_
    · rw [eD, hF, List.map_map, List.take_of_length_le (by omega)]; rfl
    · rw [fl_ol]; have := olds_len cs; omega
    · rw [fl_ol]; exact k H' g1.h
theorem ok_old_row (T : Txt w K mg) : Df P w K mg base 2 (He.ga K "old_row") ["changes"] (sp_old_row K) :=
  df_of T.f_old_row sc_old_row (fun _ _ _ _ _ _ us hl => match us, hl with | [_], _ => rfl) (fun vs H Q E h => by
    obtain ⟨S, v, cs, rfl, _⟩ := h
    rfl) (fun cdv A outer s H E hr => w_old_row T cdv A outer s H E hr) (fun vs H Q E h => r_old_row T vs H Q E h)
end
end Pk
namespace Pk
open PySem PySem.Spec
open PyProof.Rows L2
/-! ## new_of -/
theorem sc_new_of : FnScope ["change"] ["change"] (defScope s_new_of) := ⟨rfl, rfl, rfl, by decide +kernel, rfl, by decide +kernel, by decide +kernel⟩
def sp_new_of (K : PySem.W.Frag) : Sp := fun vs H Q _ => ∃ (c : Ch) (p : Addr), vs = [.ref p] ∧ H p = some (.tup (vCh c)) ∧ Q (.str (tx c.nw)) H
def t_new_of (K : PySem.W.Frag) : TS := (tSeq (tIfS (tTest (tOp rEq (tOp (rIxT K) (tVar 0) (tC (.int 0))) (tC (.str "out")))) (tRet (tC (.str ""))) tNext)
  (tRet (tOp (rIxT K) (tVar 0) (tUn oNeg (tC (.int 1))))))
section
variable {P : Program} {w : World} {K : PySem.W.Frag} {mg : Str → Option Value} {base : Heap}
theorem w_new_of (T : Txt w K mg) (cdv : Value) (A : Around) (outer : List Env) (s : Shared) (H : Hp) (E : XK) (hr : Room 0 (A.deeper (envOfC "new_of" (defScope s_new_of) s.heap.objs.size (He.ga K "new_of") cdv))) :
    PSs (cxOf CX0 P w K mg base ["change"] "new_of" (defScope s_new_of) (He.ga K "new_of") cdv A outer s H E).nox (defBody s_new_of) (t_new_of K) := by
  exact (pss_cons (ps_if (pt_cmpR op_eq (pe_ix ix_tup (pv 0) pe_int (fun _ _ => rfl)) pe_str (nomark _)) (pss_one (ps_ret pe_str)) pss_nil)
  (pss_one (ps_ret (pe_ix ix_tup (pv 0) (pe_un un_neg pe_int) (fun _ _ => rfl)))))
theorem r_new_of (T : Txt w K mg) (vs : List V) (H : Hp) (Q : VK) (E : XK) (h : sp_new_of K vs H Q E) : t_new_of K { nx := fun _ H' => Q .non H', rt := Q } (start ["change"] vs) H := by
  obtain ⟨c, p, rfl, hp, k⟩ := h
  cases c with
  | ou b => exact x_when (b := true) (Ans.to (ans_te (val_eq (val_ixT (val_var rfl) val_c hp at_0) val_c rfl)) (decT _)) (fun _ => x_ret val_emp k) (fun z => by cases z)
  | kp a => exact x_when (b := false) (Ans.to (ans_te (val_eq (val_ixT (val_var rfl) val_c hp at_0) val_c rfl)) (decV ne_ko)) (fun z => by cases z) (fun _ => x_ret (val_ixT (val_var rfl) (val_neg val_c) hp (at_neg1 rfl)) k)
  | cg a b => exact x_when (b := false) (Ans.to (ans_te (val_eq (val_ixT (val_var rfl) val_c hp at_0) val_c rfl)) (decV ne_co)) (fun z => by cases z) (fun _ => x_ret (val_ixT (val_var rfl) (val_neg val_c) hp (at_neg1 rfl)) k)
  | im a => exact x_when (b := false) (Ans.to (ans_te (val_eq (val_ixT (val_var rfl) val_c hp at_0) val_c rfl)) (decV ne_io)) (fun z => by cases z) (fun _ => x_ret (val_ixT (val_var rfl) (val_neg val_c) hp (at_neg1 rfl)) k)
theorem ok_new_of (T : Txt w K mg) : Df P w K mg base 1 (He.ga K "new_of") ["change"] (sp_new_of K) :=
  df_of T.f_new_of sc_new_of (fun _ _ _ _ _ _ us hl => match us, hl with | [_], _ => rfl) (fun vs H Q E h => by
    obtain ⟨c, p, rfl, _⟩ := h
    rfl) (fun cdv A outer s H E hr => w_new_of T cdv A outer s H E hr) (fun vs H Q E h => r_new_of T vs H Q E h)
end
end Pk
namespace Pk
open PySem PySem.Spec
open PyProof.Rows L2
/-! ## new_row -/
theorem sc_new_row : FnScope ["changes", "change"] ["changes"] (defScope s_new_row) := ⟨rfl, rfl, rfl, by decide +kernel, rfl, by decide +kernel, by decide +kernel⟩
def sp_new_row (K : PySem.W.Frag) : Sp := fun vs H Q _ => ∃ (S : Hp) (v : V) (cs : List Ch), vs = [v] ∧ Ex S H ∧ At S v (eChs cs) ∧ cs.length ≤ 1000 ∧ ∀ H', Ex H H' → Q (.str (tx (news cs))) H'
def t_new_row (K : PySem.W.Frag) : TS := (tRet (tM1 (cJoin K) (tC (.str "")) (tLc (iList K (tVar 0)) (gName 1) tYes (tCall (sp_new_of K) [] E0 (tCons (tVar 1) tNil)) [1])))
section
variable {P : Program} {w : World} {K : PySem.W.Frag} {mg : Str → Option Value} {base : Heap}
theorem w_new_row (T : Txt w K mg) (cdv : Value) (A : Around) (outer : List Env) (s : Shared) (H : Hp) (E : XK) (hr : Room 1 (A.deeper (envOfC "new_row" (defScope s_new_row) s.heap.objs.size (He.ga K "new_row") cdv))) :
    PSs (cxOf CX0 P w K mg base ["changes", "change"] "new_row" (defScope s_new_row) (He.ga K "new_row") cdv A outer s H E).nox (defBody s_new_row) (t_new_row K) := by
  obtain ⟨⟨fd_new_of, F_new_of, b_new_of⟩, k_new_of⟩ := ok_new_of (P := P) (base := base) T
  exact (pss_one (ps_ret (pe_join pe_str (pe_lc (own := [("change", 1)]) (g := (gName 1)) (tt := tYes) rfl sc_new_row.nd (pi_list (pv 0)) (blkOk_by (N := ["changes", "change"]) (sc := defScope s_new_row) (by decide +kernel)) (fun _ _ _ _ _ => (pg_name (i := 1) sc_new_row.nd rfl (Or.inl rfl))) (fun _ _ _ _ _ => pts_nil) (fun _ _ _ _ _ => (pe_call F_new_of (hr.mono (by decide)) (by exact rfl) T.g_new_of k_new_of b_new_of .nil pass0 (pa_cons (pv 1) pa_nil)))))))
theorem r_new_row (T : Txt w K mg) (vs : List V) (H : Hp) (Q : VK) (E : XK) (h : sp_new_row K vs H Q E) : t_new_row K { nx := fun _ H' => Q .non H', rt := Q } (start ["changes", "change"] vs) H := by
  obtain ⟨S, v, cs, rfl, eS, hv, hz, k⟩ := h
  obtain ⟨p, vs, rfl, hp, ha⟩ := hv.chs_
  have hn := ha.lenM
  refine x_retC ⟨⟨_, rfl⟩, c_tlc (S := S) (fun R r => ⟨_, rfl, p, rfl, ⟨vs, SqL.of (eS _ _ hp)⟩, r⟩) (walk_list (K := K) (a := p) (xs := vs)) (fun n S acc => acc = (cs.take n).map fun c => V.str (tx c.nw)) eS (fun H' e => SqL.of (e _ _ hp)) rfl (fun n S' H' acc x H'' R L hk g1 hF hy kR kL => ?_) (fun D S' H' acc hF g1 sD hD eD => ?_)⟩
  · obtain ⟨rfl, hx⟩ := hy
    obtain ⟨c, hcn, hat⟩ := ha.getM hx
    obtain ⟨q, rfl, hq⟩ := hat.ch_
    refine ⟨rfl, c_yes (c_call (va_1 (val_var rfl)) ⟨c, q, rfl, g1.i _ _ (g1.s _ _ hq), kR _ S' _ (Gw.refl g1.i) ?_ ?_⟩)⟩
    · rw [hF, List.take_succ, hcn, List.map_append]; rfl
    · rw [hF, List.length_map, List.length_take]; omega
  · refine c_join (cs.map Ch.nw) ?_ ?_ ?_
    · rw [eD, hF, List.map_map, List.take_of_length_le (by omega)]; rfl
    · rw [fl_nw]; have := news_len cs; omega
    · rw [fl_nw]; exact k H' g1.h
theorem ok_new_row (T : Txt w K mg) : Df P w K mg base 2 (He.ga K "new_row") ["changes"] (sp_new_row K) :=
  df_of T.f_new_row sc_new_row (fun _ _ _ _ _ _ us hl => match us, hl with | [_], _ => rfl) (fun vs H Q E h => by
    obtain ⟨S, v, cs, rfl, _⟩ := h
    rfl) (fun cdv A outer s H E hr => w_new_row T cdv A outer s H E hr) (fun vs H Q E h => r_new_row T vs H Q E h)
end
end Pk
namespace Pk
open PySem PySem.Spec
open PyProof.Rows L2
/-! ## done -/
theorem sc_done : FnScope ["row", "changes"] ["row", "changes"] (defScope s_done) := ⟨rfl, rfl, rfl, by decide +kernel, rfl, by decide +kernel, by decide +kernel⟩
def sp_done (K : PySem.W.Frag) : Sp := fun vs H Q _ => ∃ (S : Hp) (v : V) (cs : List Ch), vs = [.str (tx (olds cs)), v] ∧ Plain (olds cs) ∧ Ex S H ∧ At S v (eChs cs) ∧ ChsOk cs ∧ ∀ H', Ex H H' → Q (.str (tx (news cs))) H'
def t_done (K : PySem.W.Frag) : TS := (tSeq (tDrop (tCall (sp_need_plain K) [] E0 (tCons (tVar 0) tNil)))
  (tSeq (tDrop (tCall (sp_need_changes K) [] E0 (tCons (tVar 1) tNil)))
  (tSeq (tIfS (tTest (tOp rNe (tCall (sp_old_row K) [] E0 (tCons (tVar 1) tNil)) (tVar 0))) tNever tNext)
  (tRet (tCall (sp_new_row K) [] E0 (tCons (tVar 1) tNil))))))
section
variable {P : Program} {w : World} {K : PySem.W.Frag} {mg : Str → Option Value} {base : Heap}
theorem w_done (T : Txt w K mg) (cdv : Value) (A : Around) (outer : List Env) (s : Shared) (H : Hp) (E : XK) (hr : Room 4 (A.deeper (envOfC "done" (defScope s_done) s.heap.objs.size (He.ga K "done") cdv))) :
    PSs (cxOf CX0 P w K mg base ["row", "changes"] "done" (defScope s_done) (He.ga K "done") cdv A outer s H E).nox (defBody s_done) (t_done K) := by
  obtain ⟨⟨fd_need_plain, F_need_plain, b_need_plain⟩, k_need_plain⟩ := ok_need_plain (P := P) (base := base) T
  obtain ⟨⟨fd_need_changes, F_need_changes, b_need_changes⟩, k_need_changes⟩ := ok_need_changes (P := P) (base := base) T
  obtain ⟨⟨fd_old_row, F_old_row, b_old_row⟩, k_old_row⟩ := ok_old_row (P := P) (base := base) T
  obtain ⟨⟨fd_new_row, F_new_row, b_new_row⟩, k_new_row⟩ := ok_new_row (P := P) (base := base) T
  exact (pss_cons (ps_expr (pe_call F_need_plain (hr.mono (by decide)) (by exact rfl) T.g_need_plain k_need_plain b_need_plain .nil pass0 (pa_cons (pv 0) pa_nil)))
  (pss_cons (ps_expr (pe_call F_need_changes (hr.mono (by decide)) (by exact rfl) T.g_need_changes k_need_changes b_need_changes .nil pass0 (pa_cons (pv 1) pa_nil)))
  (pss_cons (ps_if (pt_cmpR op_ne (pe_call F_old_row (hr.mono (by decide)) (by exact rfl) T.g_old_row k_old_row b_old_row .nil pass0 (pa_cons (pv 1) pa_nil)) (pv 0) (nomark _)) (pss_one ps_never) pss_nil)
  (pss_one (ps_ret (pe_call F_new_row (hr.mono (by decide)) (by exact rfl) T.g_new_row k_new_row b_new_row .nil pass0 (pa_cons (pv 1) pa_nil)))))))
theorem r_done (T : Txt w K mg) (vs : List V) (H : Hp) (Q : VK) (E : XK) (h : sp_done K vs H Q E) : t_done K { nx := fun _ H' => Q .non H', rt := Q } (start ["row", "changes"] vs) H := by
  obtain ⟨S, v, cs, rfl, hpl, eS, hv, hc, k⟩ := h
  have hz := hc.1
  refine x_dropC (c_call (va_1 (val_var rfl)) ⟨_, rfl, hpl, fun H1 e1 => x_dropC (c_call (va_1 (val_var rfl)) ⟨S, _, cs, rfl, eS.trans e1, hv, hc, fun H2 e2 => ?_⟩)⟩)
  refine ⟨_, rfl, S, _, cs, rfl, (eS.trans e1).trans e2, hv, by omega, fun H3 e3 => ⟨_, rfl, rfl, _, rfl, iteNS rfl ?_⟩⟩
  exact ⟨_, rfl, S, _, cs, rfl, ((eS.trans e1).trans e2).trans e3, hv, by omega, fun H4 e4 => k H4 (((e1.trans e2).trans e3).trans e4)⟩
theorem ok_done (T : Txt w K mg) : Df P w K mg base 5 (He.ga K "done") ["row", "changes"] (sp_done K) :=
  df_of T.f_done sc_done (fun _ _ _ _ _ _ us hl => match us, hl with | [_, _], _ => rfl) (fun vs H Q E h => by
    obtain ⟨S, v, cs, rfl, _⟩ := h
    rfl) (fun cdv A outer s H E hr => w_done T cdv A outer s H E hr) (fun vs H Q E h => r_done T vs H Q E h)
end
end Pk
namespace Pk
open PySem PySem.Spec
open PyProof.Rows L2
/-! ## places_of -/
theorem sc_places_of : FnScope ["row", "found", "at", "sign"] ["row"] (defScope s_places_of) := ⟨rfl, rfl, rfl, by decide +kernel, rfl, by decide +kernel, by decide +kernel⟩
def sp_places_of (K : PySem.W.Frag) : Sp := fun vs H Q _ => ∃ (S : Hp) (b : List Nat), vs = [.str (tx b)] ∧ Ex S H ∧ RowP b ∧ ∀ S' H' d kvs, Gw S H S' H' → S' d = some (.dK kvs) → (∀ c, Plc S' kvs c (pos b b.length c)) → Q (.ref d) H'
def t_places_of (K : PySem.W.Frag) : TS := (tSeq (tDrop (tCall (sp_need_row K) [] E0 (tCons (tVar 0) tNil)))
  (tSeq (tAsg tDNewK (gName 1))
  (tSeq (tFor (iEnumS (tCons (tVar 0) tNil)) (gTup K 2 (gCons (gName 2) (gCons (gName 3) gNil))) (tDrop (tBM K "list" rAppend (tDSetd (tVar 1) (tVar 3) (tLst tNil)) (tCons (tVar 2) tNil))))
  (tRet (tVar 1)))))
section
variable {P : Program} {w : World} {K : PySem.W.Frag} {mg : Str → Option Value} {base : Heap}
theorem w_places_of (T : Txt w K mg) (cdv : Value) (A : Around) (outer : List Env) (s : Shared) (H : Hp) (E : XK) (hr : Room 2 (A.deeper (envOfC "places_of" (defScope s_places_of) s.heap.objs.size (He.ga K "places_of") cdv))) :
    PSs (cxOf CX0 P w K mg base ["row", "found", "at", "sign"] "places_of" (defScope s_places_of) (He.ga K "places_of") cdv A outer s H E).nox (defBody s_places_of) (t_places_of K) := by
  obtain ⟨⟨fd_need_row, F_need_row, b_need_row⟩, k_need_row⟩ := ok_need_row (P := P) (base := base) T
  exact (pss_cons (ps_expr (pe_call F_need_row (hr.mono (by decide)) (by exact rfl) T.g_need_row k_need_row b_need_row .nil pass0 (pa_cons (pv 0) pa_nil)))
  (pss_cons (ps_set (i := 1) sc_places_of.nd rfl (Or.inl rfl) pe_dnewK)
  (pss_cons (ps_for PassesOwn.never rfl (pi_enumS (by exact rfl) T.n_enumerate (pa_cons (pv 0) pa_nil)) (pg_tup rfl (pgs_cons (pg_name (i := 2) sc_places_of.nd rfl (Or.inl rfl)) (pgs_cons (pg_name (i := 3) sc_places_of.nd rfl (Or.inl rfl)) pgs_nil))) (pss_one (ps_expr (pe_bm PySem.F.plainAttrs_list PySem.F.slot_list_append PySem.F.type_list_append mt_append (pe_dsetd (pv 1) (pv 3) (pe_lst pa_nil) ⟨rfl, rfl, rfl, rfl⟩) (pa_cons (pv 2) pa_nil)))))
  (pss_one (ps_ret (pv 1))))))
theorem r_places_of (T : Txt w K mg) (vs : List V) (H : Hp) (Q : VK) (E : XK) (h : sp_places_of K vs H Q E) : t_places_of K { nx := fun _ H' => Q .non H', rt := Q } (start ["row", "found", "at", "sign"] vs) H := by
  obtain ⟨S, b, rfl, eS, hr, k⟩ := h
  have zb := hr.1
  refine x_dropC (c_call (va_1 (val_var rfl)) ⟨b, rfl, hr, fun H1 e1 => ?_⟩)
  refine x_setC (te := tDNewK) fun d hd => ?_
  have hd0 := e1.free hd
  refine x_forES (val_var rfl) (fun n σ' H' => ∃ (z2 z3 : Option V) (kvs : List (Key × V)) (ad : Nat → Addr), σ' = [some (.str (tx b)), some (.ref d), z2, z3] ∧ Ex H H' ∧ H' d = some (.dK kvs) ∧ kvs.length ≤ n ∧ ∀ c, (pos b n c = [] ∧ valV kvs (.inr (tx [c])) = none) ∨ (valV kvs (.inr (tx [c])) = some (.ref (ad c)) ∧ H (ad c) = none ∧ ad c ≠ d ∧ H' (ad c) = some (.lst ((pos b n c).map fun j => V.int (j : Nat))) ∧ ∀ c', valV kvs (.inr (tx [c'])) = some (.ref (ad c)) → c' = c)) ⟨none, none, [], fun _ => 0, rfl, e1.trans (Ex.new hd), upd_same, Nat.le_refl _, fun c => .inl ⟨rfl, rfl⟩⟩ ?_ ?_
  · rintro n c σ' H' T0 hc ⟨z2, z3, kvs, ad, rfl, eH, hD, hkl, hall⟩ hT
    have hn : n < b.length := (List.getElem?_eq_some_iff.mp hc).1
    have pn : ∀ c', pos b (n + 1) c' = if c' = c then pos b n c' ++ [n] else pos b n c' := fun c' => by
      rw [pos_succ, hc]
      by_cases e : c' = c
      · rw [if_pos e, if_pos (by rw [e])]
      · rw [if_neg e, if_neg (fun z => e (Option.some.inj z).symm)]
    have eT := Ex.new (o := .tup [.int (n : Nat), .str (tx [c])]) hT
    have hTd : T0 ≠ d := fun e => by rw [e, hD] at hT; cases hT
    generalize hH2 : upd H' T0 (.tup [.int (n : Nat), .str (tx [c])]) = H2 at eT
    have hD2 := eT _ _ hD
    have eH2 := eH.trans eT
    refine ⟨_, rfl, d, rfl, .inl ⟨kvs, .of hD2⟩, _, rfl, by show 0 ≤ sizeLine; decide, fun e he => ?_⟩
    have hed : e ≠ d := fun z => by rw [z, hD2] at he; cases he
    have eE := Ex.new (o := .lst []) he
    refine ⟨kvs, .inr (tx [c]), eE _ _ hD2, rfl, small6 (by omega), fun v hv => ?_, fun hv => ?_⟩
    · rcases hall c with ⟨h1, h2⟩ | ⟨h1, h2, h3, h4, h5⟩
      · rw [h2] at hv; cases hv
      · rw [h1] at hv
        cases hv
        have h4' := eE _ _ (eT _ _ h4)
        have hpl := pos_len b n c
        refine ⟨.inl ⟨rfl, _, SqL.of h4'⟩, _, rfl, ad c, _, _, rfl, rfl, h4', small6 (by rw [List.length_map]; omega), _, _, kvs, ad, rfl, ?_, ?_, by omega, fun c' => ?_⟩
        · exact fun a o ha => by rw [upd_ne (ne_of_none ha h2)]; exact eE _ _ (eH2 _ _ ha)
        · rw [upd_ne h3.symm]; exact eE _ _ hD2
        · rw [pn]
          by_cases q : c' = c
          · subst q
            rw [if_pos rfl]
            exact .inr ⟨h1, h2, h3, by rw [upd_same, List.map_append]; rfl, h5⟩
          · rw [if_neg q]
            rcases hall c' with ⟨g1, g2⟩ | ⟨g1, g2, g3, g4, g5⟩
            · exact .inl ⟨g1, g2⟩
            · refine .inr ⟨g1, g2, g3, ?_, g5⟩
              rw [upd_ne (fun z => q (h5 c' (by rw [g1, z])))]
              exact eE _ _ (eT _ _ g4)
    · have p0 : pos b n c = [] := by
        rcases hall c with ⟨h1, h2⟩ | ⟨h1, _⟩
        · exact h1
        · rw [h1] at hv; cases hv
      have heH : H e = none := eH2.free he
      have hE4 : upd (upd H2 e (.lst [])) d (.dK (putK kvs (.inr (tx [c])) (.ref e))) e = some (.lst []) := by rw [upd_ne hed, upd_same]
      have val1 : ∀ c', valV (putK kvs (.inr (tx [c])) (.ref e)) (.inr (tx [c'])) = if c' = c then some (.ref e) else valV kvs (.inr (tx [c'])) := fun c' => by
        rw [valV_put]
        by_cases q : c' = c
        · rw [if_pos q, if_pos (by rw [q])]
        · rw [if_neg q, if_neg (fun z => q (by injection z with z; have := tx_inj z; simpa using this))]
      have adne : ∀ c', c' ≠ c → valV kvs (.inr (tx [c'])) ≠ some (.ref e) := fun c' q z => by
        rcases hall c' with ⟨g1, g2⟩ | ⟨g1, g2, g3, g4, g5⟩
        · rw [g2] at z; cases z
        · rw [g1] at z
          injection z with z
          injection z with z
          rw [z] at g4
          rw [eT _ _ g4] at he
          cases he
      obtain ⟨ad2, ad2c, ad2n⟩ : ∃ ad2 : Nat → Addr, ad2 c = e ∧ ∀ c', c' ≠ c → ad2 c' = ad c' := ⟨fun c' => if c' = c then e else ad c', if_pos rfl, fun c' q => if_neg q⟩
      refine ⟨.inl ⟨rfl, _, SqL.of hE4⟩, _, rfl, e, _, _, rfl, rfl, hE4, small6 (by simp), _, _, putK kvs (.inr (tx [c])) (.ref e), ad2, rfl, ?_, ?_, ?_, fun c' => ?_⟩
      · exact fun a o ha => by rw [upd_ne (ne_of_none ha heH), upd_ne (ne_of_none ha hd0)]; exact eE _ _ (eH2 _ _ ha)
      · rw [upd_ne hed.symm, upd_same]
      · have := length_putK kvs (.inr (tx [c])) (.ref e); omega
      · rw [pn, val1]
        by_cases q : c' = c
        · subst q
          rw [if_pos rfl, if_pos rfl, ad2c, p0]
          refine .inr ⟨rfl, heH, hed, by rw [upd_same]; rfl, fun c'' h => ?_⟩
          rw [val1] at h
          by_cases q2 : c'' = c'
          · exact q2
          · rw [if_neg q2] at h; exact absurd h (adne c'' q2)
        · rw [if_neg q, if_neg q, ad2n c' q]
          rcases hall c' with ⟨g1, g2⟩ | ⟨g1, g2, g3, g4, g5⟩
          · exact .inl ⟨g1, g2⟩
          · have hne : ad c' ≠ e := fun z => by rw [z] at g4; rw [eT _ _ g4] at he; cases he
            refine .inr ⟨g1, g2, g3, by rw [upd_ne hne, upd_ne g3]; exact eE _ _ (eT _ _ g4), fun c'' h => ?_⟩
            rw [val1] at h
            by_cases q2 : c'' = c
            · rw [if_pos q2] at h
              injection h with h
              injection h with h
              exact absurd h.symm hne
            · rw [if_neg q2] at h; exact g5 c'' h
  · rintro σ' H' ⟨z2, z3, kvs, ad, rfl, eH, hD, hkl, hall⟩
    refine x_ret (val_var rfl) (k _ _ d kvs ((Gw.refl eS).any eH).all ?_ fun c => ?_)
    · show (if H d = none then H' d else S d) = _
      rw [if_pos hd0, hD]
    · rcases hall c with h | ⟨h1, h2, h3, h4, h5⟩
      · exact .inl h
      · refine .inr ⟨ad c, h1, ?_⟩
        show (if H (ad c) = none then H' (ad c) else S (ad c)) = _
        rw [if_pos h2, h4]
theorem ok_places_of (T : Txt w K mg) : Df P w K mg base 3 (He.ga K "places_of") ["row"] (sp_places_of K) :=
  df_of T.f_places_of sc_places_of (fun _ _ _ _ _ _ us hl => match us, hl with | [_], _ => rfl) (fun vs H Q E h => by
    obtain ⟨S, b, rfl, _⟩ := h
    rfl) (fun cdv A outer s H E hr => w_places_of T cdv A outer s H E hr) (fun vs H Q E h => r_places_of T vs H Q E h)
end
end Pk
namespace Pk
open PySem PySem.Spec
open PyProof.Rows L2
/-! ## pairs_of -/
theorem sc_pairs_of : FnScope ["side", "top", "there", "found", "i", "sign", "j"] ["side", "top"] (defScope s_pairs_of) := ⟨rfl, rfl, rfl, by decide +kernel, rfl, by decide +kernel, by decide +kernel⟩
def sp_pairs_of (K : PySem.W.Frag) : Sp := fun vs H Q _ => ∃ (S : Hp) (a b : List Nat), vs = [.str (tx a), .str (tx b)] ∧ Ex S H ∧ RowP a ∧ RowP b ∧ ∀ S' H' v', Gw S H S' H' → At S' v' (ePrs (prs a b)) → Q v' H'
def t_pairs_of (K : PySem.W.Frag) : TS := (tSeq (tDrop (tCall (sp_need_rows K) [] E0 (tCons (tVar 0) (tCons (tVar 1) tNil))))
  (tSeq (tAsg (tCall (sp_places_of K) [] E0 (tCons (tVar 1) tNil)) (gName 2))
  (tSeq (tAsg (tLst tNil) (gName 3))
  (tSeq (tFor (iEnumS (tCons (tVar 0) tNil)) (gTup K 2 (gCons (gName 4) (gCons (gName 5) gNil))) (tDrop (tBM K "list" rExtend (tVar 3) (tCons (tLc (iList K (tDGet2 (tVar 2) (tVar 5) (tLst tNil))) (gName 6) tYes (tTup (tCons (tVar 4) (tCons (tVar 6) tNil))) [6]) tNil))))
  (tRet (tVar 3))))))
section
variable {P : Program} {w : World} {K : PySem.W.Frag} {mg : Str → Option Value} {base : Heap}
theorem w_pairs_of (T : Txt w K mg) (cdv : Value) (A : Around) (outer : List Env) (s : Shared) (H : Hp) (E : XK) (hr : Room 3 (A.deeper (envOfC "pairs_of" (defScope s_pairs_of) s.heap.objs.size (He.ga K "pairs_of") cdv))) :
    PSs (cxOf CX0 P w K mg base ["side", "top", "there", "found", "i", "sign", "j"] "pairs_of" (defScope s_pairs_of) (He.ga K "pairs_of") cdv A outer s H E).nox (defBody s_pairs_of) (t_pairs_of K) := by
  obtain ⟨⟨fd_need_rows, F_need_rows, b_need_rows⟩, k_need_rows⟩ := ok_need_rows (P := P) (base := base) T
  obtain ⟨⟨fd_places_of, F_places_of, b_places_of⟩, k_places_of⟩ := ok_places_of (P := P) (base := base) T
  exact (pss_cons (ps_expr (pe_call F_need_rows (hr.mono (by decide)) (by exact rfl) T.g_need_rows k_need_rows b_need_rows .nil pass0 (pa_cons (pv 0) (pa_cons (pv 1) pa_nil))))
  (pss_cons (ps_set (i := 2) sc_pairs_of.nd rfl (Or.inl rfl) (pe_call F_places_of (hr.mono (by decide)) (by exact rfl) T.g_places_of k_places_of b_places_of .nil pass0 (pa_cons (pv 1) pa_nil)))
  (pss_cons (ps_set (i := 3) sc_pairs_of.nd rfl (Or.inl rfl) (pe_lst pa_nil))
  (pss_cons (ps_for PassesOwn.never rfl (pi_enumS (by exact rfl) T.n_enumerate (pa_cons (pv 0) pa_nil)) (pg_tup rfl (pgs_cons (pg_name (i := 4) sc_pairs_of.nd rfl (Or.inr rfl)) (pgs_cons (pg_name (i := 5) sc_pairs_of.nd rfl (Or.inl rfl)) pgs_nil))) (pss_one (ps_expr (pe_bm PySem.F.plainAttrs_list PySem.F.slot_list_extend PySem.F.type_list_extend mt_extend (pv 3) (pa_cons (pe_lc (own := [("j", 6)]) (g := (gName 6)) (tt := tYes) rfl sc_pairs_of.nd (pi_list (pe_dget2 (hu_of hr) (pv 2) (pv 5) (pe_lst pa_nil) ⟨rfl, rfl, rfl, rfl⟩)) (blkOk_by (N := ["side", "top", "there", "found", "i", "sign", "j"]) (sc := defScope s_pairs_of) (by decide +kernel)) (fun _ _ _ _ _ => (pg_name (i := 6) sc_pairs_of.nd rfl (Or.inl rfl))) (fun _ _ _ _ _ => pts_nil) (fun _ _ _ _ _ => (pe_tup (pa_cons (pv 4) (pa_cons (pv 6) pa_nil))))) pa_nil)))))
  (pss_one (ps_ret (pv 3)))))))
theorem r_pairs_of (T : Txt w K mg) (vs : List V) (H : Hp) (Q : VK) (E : XK) (h : sp_pairs_of K vs H Q E) : t_pairs_of K { nx := fun _ H' => Q .non H', rt := Q } (start ["side", "top", "there", "found", "i", "sign", "j"] vs) H := by
  obtain ⟨S, a, b, rfl, eS, hra, hrb, k⟩ := h
  have za := hra.1
  have zb := hrb.1
  refine x_dropC (c_call (va_2 (val_var rfl) (val_var rfl)) ⟨a, b, rfl, hra, hrb, fun H1 e1 => ?_⟩)
  refine x_setC (c_call (va_1 (val_var rfl)) ⟨S, b, rfl, eS.trans e1, hrb, fun S2 H2 d kvs g2 hd hP => ?_⟩)
  have gH : Gw S H S2 H2 := ((Gw.refl eS).any e1).trans g2
  refine x_setC (c_lst va_nil (by simp) fun l hl => ?_)
  have hl0 := gH.free hl
  refine x_forES (val_var rfl) (fun n σ' H' => ∃ (S' : Hp) (ws : List V) (z4 z5 z6 : Option V), σ' = [some (.str (tx a)), some (.str (tx b)), some (.ref d), some (.ref l), z4, z5, z6] ∧ Gw S H S' H' ∧ Ex S2 S' ∧ S' l = none ∧ H' l = some (.lst ws) ∧ AtA S' ws (((List.range n).flatMap (prs1 a b)).map ePr) ∧ ws.length ≤ n * 48) ⟨S2, [], none, none, none, rfl, gH.mut hl, Ex.refl _, gH.freeS hl, upd_same, .nil, Nat.le_refl _⟩ ?_ ?_
  · rintro n c σ' H' T0 hc ⟨S', ws, z4, z5, z6, rfl, g, e2, sl, hw, hA, hwl⟩ hT
    have hna : n < a.length := (List.getElem?_eq_some_iff.mp hc).1
    have gT := g.mut (o := .tup [.int (n : Nat), .str (tx [c])]) hT
    have hwT := upd_get (o := .tup [.int (n : Nat), .str (tx [c])]) hw hT
    generalize upd H' T0 (.tup [.int (n : Nat), .str (tx [c])]) = H3 at gT hwT
    have dd : H3 d = some (.dK kvs) := gT.i _ _ (e2 _ _ hd)
    have gR := Gw.refl gT.i
    refine ⟨_, rfl, .inl ⟨rfl, _, SqL.of hwT⟩, ?_⟩
    refine ⟨_, rfl, d, rfl, .inl ⟨kvs, .of dd⟩, _, rfl, by show 0 ≤ sizeLine; decide, fun e he => ?_⟩
    have eE := Ex.new (o := .lst []) he
    refine ⟨valV kvs (.inr (tx [c])), .inl ⟨kvs, .inr (tx [c]), .of (eE _ _ dd), rfl, rfl⟩, ?_⟩
    obtain ⟨S3, r, ho, g3, hr⟩ : ∃ S3 r, (valV kvs (.inr (tx [c]))).getD (.ref e) = .ref r ∧ Gw S' H3 S3 (upd H3 e (.lst [])) ∧ S3 r = some (.lst ((pos b b.length c).map fun j => V.int (j : Nat))) := by
      rcases hP c with ⟨h1, h2⟩ | ⟨r, h1, h2⟩
      · exact ⟨upd S' e (.lst []), e, by rw [h2]; rfl, gR.put he, by rw [upd_same, h1]; rfl⟩
      · exact ⟨S', r, by rw [h1]; rfl, gR.mut he, e2 _ _ h2⟩
    rw [ho]
    generalize upd H3 e (.lst []) = H4 at g3 eE
    refine ⟨r, rfl, ⟨_, SqL.of (g3.i _ _ hr)⟩, ?_⟩
    have hrl := pos_len b b.length c
    refine c_lc (S := S3) (H := H4) (walk_list (K := K) (a := r) (xs := (pos b b.length c).map fun j => V.int (j : Nat))) (fun m S4 acc => AtA S4 acc (((pos b b.length c).take m).map fun j => ePr (n, j)) ∧ acc.length = m) g3.i (fun H' e => SqL.of (e _ _ hr)) ⟨.nil, rfl⟩ (fun m S4 H' acc x H'' R L hk g4 hF hy kR kL => ?_) (fun D S4 H6 acc hF g4 sD hD eD => ?_)
    · obtain ⟨rfl, hx⟩ := hy
      rw [List.getElem?_map] at hx
      obtain ⟨j, hj, rfl⟩ := Option.map_eq_some_iff.mp hx
      have hjl : m < (pos b b.length c).length := (List.getElem?_eq_some_iff.mp hj).1
      refine ⟨rfl, c_yes (te := tTup _) (c_tup (va_2 (val_var rfl) (val_var rfl)) (by simp) fun u hu => kR _ (upd S4 u (.tup [.int (n : Nat), .int (j : Nat)])) _ ((Gw.refl g4.i).put hu) ⟨?_, by rw [List.length_append, hF.2]; rfl⟩ (by omega))⟩
      rw [List.take_succ, hj, List.map_append]
      exact (hF.1.mono (Ex.new (g4.freeS hu))).snoc (At.pr (p := (n, j)) upd_same)
    · obtain ⟨hF, hF2⟩ := hF
      rw [List.length_map] at hF2
      rw [List.take_of_length_le (by simp)] at hF
      have g5 := (gT.trans g3).trans g4
      have hw5 := (g3.trans g4).h _ _ hwT
      have sl5 := (g3.trans g4).out hwT sl
      refine ⟨l, D, ws, acc, rfl, rfl, hw5, eD, small5 (by omega), S4, ws ++ acc, some (.int (n : Nat)), some (.str (tx [c])), z6, rfl, g5.set hl0 sl5, e2.trans (g3.trans g4).s, sl5, upd_same, ?_, by rw [List.length_append]; omega⟩
      rw [List.range_succ, List.flatMap_append, List.map_append]
      refine (hA.mono (g3.trans g4).s).app ?_
      rw [show [n].flatMap (prs1 a b) = prs1 a b n by simp, prs1_pos hc, List.map_map]
      exact hF
  · rintro σ' H' ⟨S', ws, z4, z5, z6, rfl, g, e2, sl, hw, hA, hwl⟩
    refine x_ret (val_var rfl) (k _ _ _ (g.frz hl0 sl hw) ?_)
    exact .lst upd_same (hA.mono (Ex.new sl))
theorem ok_pairs_of (T : Txt w K mg) : Df P w K mg base 4 (He.ga K "pairs_of") ["side", "top"] (sp_pairs_of K) :=
  df_of T.f_pairs_of sc_pairs_of (fun _ _ _ _ _ _ us hl => match us, hl with | [_, _], _ => rfl) (fun vs H Q E h => by
    obtain ⟨S, a, b, rfl, _⟩ := h
    rfl) (fun cdv A outer s H E hr => w_pairs_of T cdv A outer s H E hr) (fun vs H Q E h => r_pairs_of T vs H Q E h)
end
end Pk
namespace Pk
open PySem PySem.Spec
open PyProof.Rows L2
/-! ## is_whole -/
theorem sc_is_whole : FnScope ["thing"] ["thing"] (defScope s_is_whole) := ⟨rfl, rfl, rfl, by decide +kernel, rfl, by decide +kernel, by decide +kernel⟩
def sp_is_whole (K : PySem.W.Frag) : Sp := fun vs H Q _ => ∃ (i : Int), vs = [.int i] ∧ Q (.bl true) H
def t_is_whole (K : PySem.W.Frag) : TS := (tRet (tAndV (tCB (rIsi K) (tCons (tVar 0) (tCons (tC (.ty "int")) tNil))) (tNotV (tCB (rIsi K) (tCons (tVar 0) (tCons (tC (.ty "bool")) tNil))))))
section
variable {P : Program} {w : World} {K : PySem.W.Frag} {mg : Str → Option Value} {base : Heap}
theorem w_is_whole (T : Txt w K mg) (cdv : Value) (A : Around) (outer : List Env) (s : Shared) (H : Hp) (E : XK) (hr : Room 0 (A.deeper (envOfC "is_whole" (defScope s_is_whole) s.heap.objs.size (He.ga K "is_whole") cdv))) :
    PSs (cxOf CX0 P w K mg base ["thing"] "is_whole" (defScope s_is_whole) (He.ga K "is_whole") cdv A outer s H E).nox (defBody s_is_whole) (t_is_whole K) := by
  exact (pss_one (ps_ret (pe_and (pe_callB call_isi (by exact rfl) T.n_isinstance (by decide +kernel) (pa_cons (pv 0) (pa_cons (pe_bltn (v := .ty "int") (by exact rfl) T.n_int (by decide +kernel) rfl) pa_nil))) (pe_one (pe_not (pe_callB call_isi (by exact rfl) T.n_isinstance (by decide +kernel) (pa_cons (pv 0) (pa_cons (pe_bltn (v := .ty "bool") (by exact rfl) T.n_bool (by decide +kernel) rfl) pa_nil))))))))
theorem r_is_whole (T : Txt w K mg) (vs : List V) (H : Hp) (Q : VK) (E : XK) (h : sp_is_whole K vs H Q E) : t_is_whole K { nx := fun _ H' => Q .non H', rt := Q } (start ["thing"] vs) H := by
  obtain ⟨i, rfl, k⟩ := h
  refine x_ret (val_andV (a := true) (b := true) (val_isi (val_var rfl) val_c (.ty _) (.base (.int i)) ?_) fun _ => val_notV (a := false) (val_isi (val_var rfl) val_c (.ty _) (.base (.int i)) ?_)) k
  all_goals exact kit_ty (by decide +kernel)
theorem ok_is_whole (T : Txt w K mg) : Df P w K mg base 1 (He.ga K "is_whole") ["thing"] (sp_is_whole K) :=
  df_of T.f_is_whole sc_is_whole (fun _ _ _ _ _ _ us hl => match us, hl with | [_], _ => rfl) (fun vs H Q E h => by
    obtain ⟨i, rfl, _⟩ := h
    rfl) (fun cdv A outer s H E hr => w_is_whole T cdv A outer s H E hr) (fun vs H Q E h => r_is_whole T vs H Q E h)
end
end Pk
namespace Pk
open PySem PySem.Spec
open PyProof.Rows L2
/-! ## is_within -/
theorem sc_is_within : FnScope ["thing", "low", "high"] ["thing", "low", "high"] (defScope s_is_within) := ⟨rfl, rfl, rfl, by decide +kernel, rfl, by decide +kernel, by decide +kernel⟩
def sp_is_within (K : PySem.W.Frag) : Sp := fun vs H Q _ => ∃ (i lo hi : Int), vs = [.int i, .int lo, .int hi] ∧ Q (.bl (decide (lo ≤ i) && decide (i ≤ hi))) H
def t_is_within (K : PySem.W.Frag) : TS := (tRet (tAndV (tCall (sp_is_whole K) [] E0 (tCons (tVar 0) tNil)) (tChain oLe oLe (tVar 1) (tVar 0) (tVar 2))))
section
variable {P : Program} {w : World} {K : PySem.W.Frag} {mg : Str → Option Value} {base : Heap}
theorem w_is_within (T : Txt w K mg) (cdv : Value) (A : Around) (outer : List Env) (s : Shared) (H : Hp) (E : XK) (hr : Room 1 (A.deeper (envOfC "is_within" (defScope s_is_within) s.heap.objs.size (He.ga K "is_within") cdv))) :
    PSs (cxOf CX0 P w K mg base ["thing", "low", "high"] "is_within" (defScope s_is_within) (He.ga K "is_within") cdv A outer s H E).nox (defBody s_is_within) (t_is_within K) := by
  obtain ⟨⟨fd_is_whole, F_is_whole, b_is_whole⟩, k_is_whole⟩ := ok_is_whole (P := P) (base := base) T
  exact (pss_one (ps_ret (pe_and (pe_call F_is_whole (hr.mono (by decide)) (by exact rfl) T.g_is_whole k_is_whole b_is_whole .nil pass0 (pa_cons (pv 0) pa_nil)) (pe_one (pe_chain op_le op_le (pv 1) (pv 0) (pv 2))))))
theorem r_is_within (T : Txt w K mg) (vs : List V) (H : Hp) (Q : VK) (E : XK) (h : sp_is_within K vs H Q E) : t_is_within K { nx := fun _ H' => Q .non H', rt := Q } (start ["thing", "low", "high"] vs) H := by
  obtain ⟨i, lo, hi, rfl, k⟩ := h
  refine x_ret (val_andV (a := true) (val_call (va_1 (val_var rfl)) fun Q q => ⟨i, rfl, q⟩) fun _ => val_chain (val_var rfl) (val_var rfl) (fun Q q => ⟨lo, i, rfl, rfl, q⟩) (fun _ => val_var rfl) (fun _ Q q => ⟨i, hi, rfl, rfl, q⟩)) ?_
  exact k
theorem ok_is_within (T : Txt w K mg) : Df P w K mg base 2 (He.ga K "is_within") ["thing", "low", "high"] (sp_is_within K) :=
  df_of T.f_is_within sc_is_within (fun _ _ _ _ _ _ us hl => match us, hl with | [_, _, _], _ => rfl) (fun vs H Q E h => by
    obtain ⟨i, lo, hi, rfl, _⟩ := h
    rfl) (fun cdv A outer s H E hr => w_is_within T cdv A outer s H E hr) (fun vs H Q E h => r_is_within T vs H Q E h)
end
end Pk
namespace Pk
open PySem PySem.Spec
open PyProof.Rows L2
/-! ## is_pair -/
theorem sc_is_pair : FnScope ["side", "top", "thing", "i", "j"] ["side", "top", "thing"] (defScope s_is_pair) := ⟨rfl, rfl, rfl, by decide +kernel, rfl, by decide +kernel, by decide +kernel⟩
def sp_is_pair (K : PySem.W.Frag) : Sp := fun vs H Q _ => ∃ (a b : List Nat) (p : Nat × Nat) (q : Addr), vs = [.str (tx a), .str (tx b), .ref q] ∧ H q = some (.tup [.int (p.1 : Nat), .int (p.2 : Nat)]) ∧ prOk a b p ∧ a.length ≤ 1000 ∧ b.length ≤ 1000 ∧ Q (.bl true) H
def t_is_pair (K : PySem.W.Frag) : TS := (tSeq (tIfS (tOr (tNot (tB (tCB (rIsi K) (tCons (tVar 2) (tCons (tC (.ty "tuple")) tNil))))) (tTest (tOp rNe (tCB (cLenL K) (tCons (tVar 2) tNil)) (tC (.int 2))))) (tRet (tC (.bl false))) tNext)
  (tSeq (tAsg (tVar 2) (gTup K 2 (gCons (gName 3) (gCons (gName 4) gNil))))
  (tSeq (tIfS (tOr (tNot (tB (tCall (sp_is_within K) [] E0 (tCons (tVar 3) (tCons (tC (.int 0)) (tCons (tOp oSub (tCB cLenS (tCons (tVar 0) tNil)) (tC (.int 1))) tNil)))))) (tNot (tB (tCall (sp_is_within K) [] E0 (tCons (tVar 4) (tCons (tC (.int 0)) (tCons (tOp oSub (tCB cLenS (tCons (tVar 1) tNil)) (tC (.int 1))) tNil))))))) (tRet (tC (.bl false))) tNext)
  (tRet (tOp rEq (tOp rIxS (tVar 0) (tVar 3)) (tOp rIxS (tVar 1) (tVar 4)))))))
section
variable {P : Program} {w : World} {K : PySem.W.Frag} {mg : Str → Option Value} {base : Heap}
theorem w_is_pair (T : Txt w K mg) (cdv : Value) (A : Around) (outer : List Env) (s : Shared) (H : Hp) (E : XK) (hr : Room 2 (A.deeper (envOfC "is_pair" (defScope s_is_pair) s.heap.objs.size (He.ga K "is_pair") cdv))) :
    PSs (cxOf CX0 P w K mg base ["side", "top", "thing", "i", "j"] "is_pair" (defScope s_is_pair) (He.ga K "is_pair") cdv A outer s H E).nox (defBody s_is_pair) (t_is_pair K) := by
  obtain ⟨⟨fd_is_within, F_is_within, b_is_within⟩, k_is_within⟩ := ok_is_within (P := P) (base := base) T
  exact (pss_cons (ps_if (PW.pt (pw_or (pt_not (pt_val (pe_callB call_isi (by exact rfl) T.n_isinstance (by decide +kernel) (pa_cons (pv 2) (pa_cons (pe_bltn (v := .ty "tuple") (by exact rfl) T.n_tuple (by decide +kernel) rfl) pa_nil))))) (pw_or1 (pt_cmpR op_ne (pe_callB cl_lenL (by exact rfl) T.n_len PySem.boot_len (pa_cons (pv 2) pa_nil)) pe_int (nomark _))))) (pss_one (ps_ret pe_bl)) pss_nil)
  (pss_cons (ps_asg (pv 2) (pg_tup rfl (pgs_cons (pg_name (i := 3) sc_is_pair.nd rfl (Or.inl rfl)) (pgs_cons (pg_name (i := 4) sc_is_pair.nd rfl (Or.inl rfl)) pgs_nil))))
  (pss_cons (ps_if (PW.pt (pw_or (pt_not (pt_val (pe_call F_is_within (hr.mono (by decide)) (by exact rfl) T.g_is_within k_is_within b_is_within .nil pass0 (pa_cons (pv 3) (pa_cons pe_int (pa_cons (pe_op op_sub (pe_callB cl_lenS (by exact rfl) T.n_len PySem.boot_len (pa_cons (pv 0) pa_nil)) pe_int) pa_nil)))))) (pw_or1 (pt_not (pt_val (pe_call F_is_within (hr.mono (by decide)) (by exact rfl) T.g_is_within k_is_within b_is_within .nil pass0 (pa_cons (pv 4) (pa_cons pe_int (pa_cons (pe_op op_sub (pe_callB cl_lenS (by exact rfl) T.n_len PySem.boot_len (pa_cons (pv 1) pa_nil)) pe_int) pa_nil))))))))) (pss_one (ps_ret pe_bl)) pss_nil)
  (pss_one (ps_ret (pe_cmpR op_eq (pe_ix ix_str (pv 0) (pv 3) (fun _ _ => rfl)) (pe_ix ix_str (pv 1) (pv 4) (fun _ _ => rfl)) (nomark _)))))))
theorem r_is_pair (T : Txt w K mg) (vs : List V) (H : Hp) (Q : VK) (E : XK) (h : sp_is_pair K vs H Q E) : t_is_pair K { nx := fun _ H' => Q .non H', rt := Q } (start ["side", "top", "thing", "i", "j"] vs) H := by
  obtain ⟨a, b, p, q, rfl, hq, ⟨h1, h2, h3⟩, za, zb, k⟩ := h
  refine x_no (Ans.to (ans_orW (Ans.to (ans_not (ans_val (val_isi (b := true) (val_var rfl) val_c (.ty _) (.base (.tup hq)) (kit_ty (by decide +kernel))))) rfl) (fun _ => ans_te (val_ne (val_lenT (val_var rfl) hq) val_c rfl))) rfl) ?_
  refine ⟨_, rfl, q, _, rfl, SqT.of hq, rfl, _, _, rfl, _, _, rfl, rfl, ?_⟩
  have w1 : Ans (tNot (tB (tCall (sp_is_within K) [] E0 (tCons (tVar 3) (tCons (tC (.int 0)) (tCons (tOp oSub (tCB cLenS (tCons (tVar 0) tNil)) (tC (.int 1))) tNil)))))) [some (.str (tx a)), some (.str (tx b)), some (.ref q), some (.int (p.1 : Nat)), some (.int (p.2 : Nat))] H false :=
    Ans.to (ans_not (ans_val (val_call (sp := sp_is_within K) (va_3 (val_var rfl) val_c (val_I0 (val_lenS (val_var rfl) (by omega)) val_c)) fun Q q0 => ⟨_, _, _, rfl, q0⟩))) (by
      rw [decide_eq_true (show (0 : Int) ≤ ((p.1 : Nat) : Int) by omega), decide_eq_true (show ((p.1 : Nat) : Int) ≤ (a.length : Int) - 1 by omega)]; rfl)
  have w2 : Ans (tNot (tB (tCall (sp_is_within K) [] E0 (tCons (tVar 4) (tCons (tC (.int 0)) (tCons (tOp oSub (tCB cLenS (tCons (tVar 1) tNil)) (tC (.int 1))) tNil)))))) [some (.str (tx a)), some (.str (tx b)), some (.ref q), some (.int (p.1 : Nat)), some (.int (p.2 : Nat))] H false :=
    Ans.to (ans_not (ans_val (val_call (sp := sp_is_within K) (va_3 (val_var rfl) val_c (val_I0 (val_lenS (val_var rfl) (by omega)) val_c)) fun Q q0 => ⟨_, _, _, rfl, q0⟩))) (by
      rw [decide_eq_true (show (0 : Int) ≤ ((p.2 : Nat) : Int) by omega), decide_eq_true (show ((p.2 : Nat) : Int) ≤ (b.length : Int) - 1 by omega)]; rfl)
  refine x_no (Ans.to (ans_orW w1 (fun _ => w2)) rfl) ?_
  obtain ⟨c, hc⟩ : ∃ c, a[p.1]? = some c := ⟨_, List.getElem?_eq_getElem h1⟩
  exact x_ret (val_bl (val_eq (val_ixS (val_var rfl) (val_var rfl) (by omega) (at_nat rfl hc)) (val_ixS (val_var rfl) (val_var rfl) (by omega) (at_nat rfl (h3 ▸ hc))) rfl) (decide_eq_true rfl)) k
theorem ok_is_pair (T : Txt w K mg) : Df P w K mg base 3 (He.ga K "is_pair") ["side", "top", "thing"] (sp_is_pair K) :=
  df_of T.f_is_pair sc_is_pair (fun _ _ _ _ _ _ us hl => match us, hl with | [_, _, _], _ => rfl) (fun vs H Q E h => by
    obtain ⟨a, b, p, q, rfl, _⟩ := h
    rfl) (fun cdv A outer s H E hr => w_is_pair T cdv A outer s H E hr) (fun vs H Q E h => r_is_pair T vs H Q E h)
end
end Pk
namespace Pk
open PySem PySem.Spec
open PyProof.Rows L2
/-! ## is_heap -/
theorem sc_is_heap : FnScope ["side", "top", "thing", "least", "before", "i", "j", "pair"] ["side", "top", "thing"] (defScope s_is_heap) := ⟨rfl, rfl, rfl, by decide +kernel, rfl, by decide +kernel, by decide +kernel⟩
def sp_is_heap (K : PySem.W.Frag) : Sp := fun vs H Q _ => ∃ (S : Hp) (a b : List Nat) (v : V) (ps : List (Nat × Nat)), vs = [.str (tx a), .str (tx b), v] ∧ Ex S H ∧ At S v (ePrs ps) ∧ HeapOk a b ps ∧ a.length ≤ 1000 ∧ b.length ≤ 1000 ∧ ps.length ≤ 5000 ∧ ∀ H', Ex H H' → Q (.bl true) H'
def t_is_heap (K : PySem.W.Frag) : TS := (tSeq (tIfS (tOr (tNot (tB (tCB (rIsi K) (tCons (tVar 2) (tCons (tC (.ty "list")) tNil))))) (tTest (tOp (rEqD K) (tVar 2) (tLst tNil)))) (tRet (tC (.bl false))) tNext)
  (tSeq (tIfS (tNot (tB (tCB (rAll K) (tCons (tLc (iList K (tVar 2)) (gName 7) tYes (tCall (sp_is_pair K) [] E0 (tCons (tVar 0) (tCons (tVar 1) (tCons (tVar 7) tNil)))) [7]) tNil)))) (tRet (tC (.bl false))) tNext)
  (tSeq (tAsg (tCB cLenS (tCons (tVar 1) tNil)) (gName 3))
  (tSeq (tAsg (tTup (tCons (tUn oNeg (tC (.int 1))) (tCons (tUn oNeg (tC (.int 1))) tNil))) (gName 4))
  (tSeq (tFor (iList K (tCB (rSortedPO K) (tCons (tLc (iList K (tVar 2)) (gName 7) tYes (tTup (tCons (tOp (rIxT K) (tVar 7) (tC (.int 0))) (tCons (tUn oNeg (tOp (rIxT K) (tVar 7) (tC (.int 1)))) tNil))) [7]) tNil))) (gTup K 2 (gCons (gName 5) (gCons (gName 6) gNil))) (tSeq (tIfS (tOr (tTest (tOp (rEqD K) (tTup (tCons (tVar 5) (tCons (tVar 6) tNil))) (tVar 4))) (tTest (tOp oGt (tUn oNeg (tVar 6)) (tVar 3)))) (tRet (tC (.bl false))) tNext)
  (tSeq (tIfS (tTest (tOp oLt (tUn oNeg (tVar 6)) (tVar 3))) (tAsg (tUn oNeg (tVar 6)) (gName 3)) tNext)
  (tAsg (tTup (tCons (tVar 5) (tCons (tVar 6) tNil))) (gName 4)))))
  (tRet (tC (.bl true))))))))
section
variable {P : Program} {w : World} {K : PySem.W.Frag} {mg : Str → Option Value} {base : Heap}
theorem w_is_heap (T : Txt w K mg) (cdv : Value) (A : Around) (outer : List Env) (s : Shared) (H : Hp) (E : XK) (hr : Room 3 (A.deeper (envOfC "is_heap" (defScope s_is_heap) s.heap.objs.size (He.ga K "is_heap") cdv))) :
    PSs (cxOf CX0 P w K mg base ["side", "top", "thing", "least", "before", "i", "j", "pair"] "is_heap" (defScope s_is_heap) (He.ga K "is_heap") cdv A outer s H E).nox (defBody s_is_heap) (t_is_heap K) := by
  obtain ⟨⟨fd_is_pair, F_is_pair, b_is_pair⟩, k_is_pair⟩ := ok_is_pair (P := P) (base := base) T
  exact (pss_cons (ps_if (PW.pt (pw_or (pt_not (pt_val (pe_callB call_isi (by exact rfl) T.n_isinstance (by decide +kernel) (pa_cons (pv 2) (pa_cons (pe_bltn (v := .ty "list") (by exact rfl) T.n_list (by decide +kernel) rfl) pa_nil))))) (pw_or1 (pt_cmpR (op_eqD hr.units) (pv 2) (pe_lst pa_nil) (nomark _))))) (pss_one (ps_ret pe_bl)) pss_nil)
  (pss_cons (ps_if (pt_not (pt_val (pe_callB (cr_all rfl) (by exact rfl) T.n_all (by decide +kernel) (pa_cons (pe_lc (own := [("pair", 7)]) (g := (gName 7)) (tt := tYes) rfl sc_is_heap.nd (pi_list (pv 2)) (blkOk_by (N := ["side", "top", "thing", "least", "before", "i", "j", "pair"]) (sc := defScope s_is_heap) (by decide +kernel)) (fun _ _ _ _ _ => (pg_name (i := 7) sc_is_heap.nd rfl (Or.inl rfl))) (fun _ _ _ _ _ => pts_nil) (fun _ _ _ _ _ => (pe_call F_is_pair (hr.mono (by decide)) (by exact rfl) T.g_is_pair k_is_pair b_is_pair .nil pass0 (pa_cons (pv 0) (pa_cons (pv 1) (pa_cons (pv 7) pa_nil)))))) pa_nil)))) (pss_one (ps_ret pe_bl)) pss_nil)
  (pss_cons (ps_set (i := 3) sc_is_heap.nd rfl (Or.inl rfl) (pe_callB cl_lenS (by exact rfl) T.n_len PySem.boot_len (pa_cons (pv 1) pa_nil)))
  (pss_cons (ps_set (i := 4) sc_is_heap.nd rfl (Or.inl rfl) (pe_tup (pa_cons (pe_un un_neg pe_int) (pa_cons (pe_un un_neg pe_int) pa_nil))))
  (pss_cons (ps_for PassesOwn.never rfl (pi_list (pe_callB cr_sortedPO (by exact rfl) T.n_sorted (by decide +kernel) (pa_cons (pe_lc (own := [("pair", 7)]) (g := (gName 7)) (tt := tYes) rfl sc_is_heap.nd (pi_list (pv 2)) (blkOk_by (N := ["side", "top", "thing", "least", "before", "i", "j", "pair"]) (sc := defScope s_is_heap) (by decide +kernel)) (fun _ _ _ _ _ => (pg_name (i := 7) sc_is_heap.nd rfl (Or.inl rfl))) (fun _ _ _ _ _ => pts_nil) (fun _ _ _ _ _ => (pe_tup (pa_cons (pe_ix ix_tup (pv 7) pe_int (fun _ _ => rfl)) (pa_cons (pe_un un_neg (pe_ix ix_tup (pv 7) pe_int (fun _ _ => rfl))) pa_nil))))) pa_nil))) (pg_tup rfl (pgs_cons (pg_name (i := 5) sc_is_heap.nd rfl (Or.inl rfl)) (pgs_cons (pg_name (i := 6) sc_is_heap.nd rfl (Or.inl rfl)) pgs_nil))) (pss_cons (ps_if (PW.pt (pw_or (pt_cmpR (op_eqD hr.units) (pe_tup (pa_cons (pv 5) (pa_cons (pv 6) pa_nil))) (pv 4) (nomark _)) (pw_or1 (pt_cmpR op_gt (pe_un un_neg (pv 6)) (pv 3) (nomark _))))) (pss_one (ps_ret pe_bl)) pss_nil)
  (pss_cons (ps_if (pt_cmpR op_lt (pe_un un_neg (pv 6)) (pv 3) (nomark _)) (pss_one (ps_set (i := 3) sc_is_heap.nd rfl (Or.inl rfl) (pe_un un_neg (pv 6)))) pss_nil)
  (pss_one (ps_set (i := 4) sc_is_heap.nd rfl (Or.inl rfl) (pe_tup (pa_cons (pv 5) (pa_cons (pv 6) pa_nil))))))))
  (pss_one (ps_ret pe_bl)))))))
theorem r_is_heap (T : Txt w K mg) (vs : List V) (H : Hp) (Q : VK) (E : XK) (h : sp_is_heap K vs H Q E) : t_is_heap K { nx := fun _ H' => Q .non H', rt := Q } (start ["side", "top", "thing", "least", "before", "i", "j", "pair"] vs) H := by
  obtain ⟨S, a, b, v, ps, rfl, eS, hv, hok, za, zb, zp, k⟩ := h
  have i1 := hv
  obtain ⟨q, vs, rfl, hq, hA⟩ := i1.lst_
  have hn := hA.lenM
  refine x_ifC (or_f (Ans.to (ans_not (ans_val (val_isi (b := true) (val_var rfl) val_c (.ty _) (.base (.lst (eS _ _ hq))) (kit_ty (by decide +kernel))))) rfl) ?_)
  refine ⟨_, rfl, by show 0 ≤ sizeLine; decide, fun t ht => ?_⟩
  have e1 : Ex H (upd H t (.lst [])) := Ex.new ht
  refine ⟨_, .list [], At.dp (eS.trans e1) hv, .lst (SqL.of upd_same) .nil, (shp_prs ps).ok (by decide), by decide +kernel, ?_⟩
  refine ⟨_, rfl, iteE (by rw [eqv_prs_nil hok.1]) ?_⟩
  have eS1 := eS.trans e1
  generalize upd H t (.lst []) = H1 at e1 eS1 ⊢
  refine x_ifC (c_nota (c_tlc (S := S) (fun R r => ⟨_, rfl, q, rfl, ⟨vs, SqL.of (eS1 _ _ hq)⟩, r⟩) (walk_list (K := K) (a := q) (xs := vs)) (fun n S acc => acc = (List.replicate n true).map V.bl) eS1 (fun H' e => SqL.of (e _ _ hq)) rfl (fun n S' H' acc x H'' R L hk g1 hF hy kR kL => ?_) (fun D S' H2 acc hF g1 sD hD eD => ?_)))
  · obtain ⟨rfl, hx⟩ := hy
    obtain ⟨p, hp, hat⟩ := hA.getM hx
    obtain ⟨r, rfl, hr⟩ := hat.pr_
    refine ⟨rfl, c_yes (te := tCall (sp_is_pair K) [] E0 _) (c_call (va_3 (val_var rfl) (val_var rfl) (val_var rfl)) ⟨a, b, p, r, rfl, g1.i _ _ (g1.s _ _ hr), hok.2.1 p (List.mem_of_getElem? hp), za, zb, kR _ S' _ (Gw.refl g1.i) ?_ ?_⟩)⟩
    · rw [hF, List.replicate_succ', List.map_append]; rfl
    · rw [hF, List.length_map, List.length_replicate]; omega
  refine ⟨D, _, rfl, SqL.of (by rw [eD, hF]), ?_⟩
  rw [show ((List.replicate vs.length true).all id) = true by simp]
  refine ⟨true, rfl, iteF ?_⟩
  have eS2 := eS1.trans g1.h
  have e2 := e1.trans g1.h
  refine x_set (val_lenS (val_var rfl) (by omega)) ?_
  refine x_setC (c_tup (va_2 (val_neg val_c) (val_neg val_c)) (by simp) fun pb hpb => ?_)
  have e3 : Ex H2 (upd H2 pb (.tup [.int (-1), .int (-1)])) := Ex.new hpb
  have hb0 : upd H2 pb (.tup [.int (-1), .int (-1)]) pb = some (.tup [.int (-1), .int (-1)]) := upd_same
  have hbb : ∀ H3, Ex (upd H2 pb (.tup [.int (-1), .int (-1)])) H3 → H3 pb = some (.tup [.int (-1), .int (-1)]) := fun H3 e => e _ _ hb0
  generalize upd H2 pb (.tup [.int (-1), .int (-1)]) = H3 at e3 hb0 hbb
  have eS3 := eS2.trans e3
  refine c_arg1 (Q := fun v1 H4 => _) (c_tlc (S := S) (fun R r => ⟨_, rfl, q, rfl, ⟨vs, SqL.of (eS3 _ _ hq)⟩, r⟩) (walk_list (K := K) (a := q) (xs := vs)) (fun n S acc => AtA S acc ((ps.take n).map fun p => dII (nPr p))) eS3 (fun H' e => SqL.of (e _ _ hq)) .nil (fun n S' H' acc x H'' R L hk g1 hF hy kR kL => ?_) (fun D2 S' H4 acc hF g4 sD2 hD2 eD2 => ?_))
  · obtain ⟨rfl, hx⟩ := hy
    obtain ⟨p, hp, hat⟩ := hA.getM hx
    obtain ⟨r, rfl, hr⟩ := hat.pr_
    have hr' := g1.i _ _ (g1.s _ _ hr)
    refine ⟨rfl, c_yes (te := tTup _) (c_tup (va_2 (val_ixT (val_var rfl) val_c hr' at_0) (val_neg (val_ixT (val_var rfl) val_c hr' at_1))) (by simp) fun u hu => kR _ (upd S' u (.tup [.int (p.1 : Nat), .int (-(p.2 : Nat))])) _ ((Gw.refl g1.i).put hu) ?_ ?_)⟩
    · rw [List.take_succ, hp, List.map_append]
      exact (hF.mono (Ex.new (g1.freeS hu))).snoc (At.ii (z := nPr p) upd_same)
    · rw [hF.len, List.length_map, List.length_take]; omega
  rw [List.take_of_length_le (by omega)] at hF
  have hF' : AtA S' acc ((ps.map nPr).map dII) := by rw [List.map_map]; exact hF
  refine c_sorted eD2 hF' g4.i fun zs ys pp pm srt hY hpp => ?_
  have g5 := g4.put (o := .lst ys) hpp
  have hyl := hY.lenM
  have e5 := e3.trans g5.h
  refine ⟨pp, rfl, ⟨ys, SqL.of upd_same⟩, ?_⟩
  have hbef : ∀ z ∈ zs, True := fun _ _ => trivial
  let lst : Nat → Int := fun n => match n with
    | 0 => (b.length : Int)
    | m + 1 => -(zs.getD m (0, 0)).2
  let bef : Nat → Int × Int := fun n => match n with
    | 0 => (-1, -1)
    | m + 1 => zs.getD m (0, 0)
  refine for_lst (D := { nx := tRet (tC (.bl true)) { nx := fun _ H' => Q .non H', rt := Q }, rt := Q }) (fun n σ' H' => ∃ (pb : Addr) (z5 z6 z7 : Option V), σ' = [some (.str (tx a)), some (.str (tx b)), some (.ref q), some (.int (lst n)), some (.ref pb), z5, z6, z7] ∧ Ex (upd H4 pp (.lst ys)) H' ∧ H' pb = some (.tup [.int (bef n).1, .int (bef n).2])) ⟨pb, _, _, _, rfl, Ex.refl _, g5.h _ _ hb0⟩ (fun n σ' H' ⟨pb, z5, z6, z7, _, e, _⟩ => SqL.of (e _ _ upd_same)) ?_ ?_
  · rintro n y σ' H' hy ⟨pb, z5, z6, z7, rfl, e, hpb⟩
    obtain ⟨z, hz, hat⟩ := hY.getM hy
    obtain ⟨r, rfl, hr⟩ := hat.ii_
    have hr' := e _ _ (g5.i _ _ (Ex.new (g4.freeS hpp) _ _ hr))
    obtain ⟨w1, w2, w3⟩ := heap_walk hok pm srt hz
    refine ⟨r, _, rfl, SqT.of hr', rfl, _, _, rfl, _, _, rfl, rfl, ?_⟩
    have fact : z ≠ bef n ∧ -z.2 ≤ lst n := by
      cases n with
      | zero => exact ⟨fun q => by rw [q] at w1; simp [bef] at w1, by show -z.2 ≤ (b.length : Int); omega⟩
      | succ m =>
        have hm : m < zs.length := by have := (List.getElem?_eq_some_iff.mp hz).1; omega
        have hm2 := List.getElem?_eq_getElem hm
        have h5 := w3 _ m rfl hm2
        have e6 : zs.getD m (0, 0) = zs[m] := by rw [List.getD_eq_getElem?_getD, hm2]; rfl
        show z ≠ zs.getD m (0, 0) ∧ -z.2 ≤ -(zs.getD m (0, 0)).2
        rw [e6]
        exact h5
    have fact3 : lst (n + 1) = -z.2 ∧ bef (n + 1) = z := by
      have e6 : zs.getD n (0, 0) = z := by rw [List.getD_eq_getElem?_getD, hz]; rfl
      show -(zs.getD n (0, 0)).2 = _ ∧ zs.getD n (0, 0) = z
      rw [e6]
      exact ⟨rfl, rfl⟩
    refine x_ifC ⟨_, rfl, _, rfl, by show 2 ≤ sizeLine; decide, fun u hu => ⟨_, rfl, ?_⟩⟩
    have e7 := Ex.new (o := .tup [.int z.1, .int z.2]) hu
    refine ⟨dII z, dII (bef n), .tup (SqT.of upd_same) (.cons (.int _) (.cons (.int _) .nil)), .tup (SqT.of (e7 _ _ hpb)) (.cons (.int _) (.cons (.int _) .nil)), (shp_ii _ _).ok (by decide), (shp_ii _ _).ok (by decide), ?_⟩
    refine ⟨_, rfl, iteE (by
      rw [dII, dII, eqv_ii]
      by_cases h1 : z.1 = (bef n).1
      · by_cases h2 : z.2 = (bef n).2
        · exact absurd (Prod.ext h1 h2) fact.1
        · rw [decide_eq_false h2, Bool.and_false]
      · rw [decide_eq_false h1, Bool.false_and]) ?_⟩
    generalize upd H' u (.tup [.int z.1, .int z.2]) = H6 at e7 ⊢
    refine (ans_te (val_I0 (val_neg (val_var rfl)) (val_var rfl))) _ (iteE (decide_eq_false (by omega)) ?_)
    have fin : ∀ H7, Ex H6 H7 → ∀ (σ2 : L2.St), σ2 = [some (.str (tx a)), some (.str (tx b)), some (.ref q), some (.int (lst (n + 1))), some (.ref pb), some (.int z.1), some (.int z.2), z7] → tAsg (tTup (tCons (tVar 5) (tCons (tVar 6) tNil))) (gName 4) { nx := (fun σ' H' => ∃ (pb : Addr) (z5 z6 z7 : Option V), σ' = [some (.str (tx a)), some (.str (tx b)), some (.ref q), some (.int (lst (n + 1))), some (.ref pb), z5, z6, z7] ∧ Ex (upd H4 pp (.lst ys)) H' ∧ H' pb = some (.tup [.int (bef (n + 1)).1, .int (bef (n + 1)).2])), rt := Q } σ2 H7 := fun H7 e8 σ2 hσ => by
      subst hσ
      refine y_setC (c_tup (va_2 (val_var rfl) (val_var rfl)) (by simp) fun w hw => ⟨w, _, _, _, rfl, ((e.trans e7).trans e8).trans (Ex.new hw), ?_⟩)
      rw [fact3.2]
      exact upd_same
    refine x_when (b := decide (-z.2 < lst n)) (ans_te (val_I0 (val_neg (val_var rfl)) (val_var rfl))) (fun hb => y_set (v := .int (-z.2)) (val_neg (i := z.2) (val_var rfl)) (fin _ (Ex.refl _) _ ?_)) (fun hb => fin _ (Ex.refl _) _ ?_)
    · rw [fact3.1]; rfl
    · have := of_decide_eq_false hb
      rw [fact3.1, show -z.2 = lst n by omega]
      rfl
  · rintro σ' H' ⟨pb, z5, z6, z7, rfl, e, hpb⟩
    exact k _ ((e2.trans e5).trans e)
theorem ok_is_heap (T : Txt w K mg) : Df P w K mg base 4 (He.ga K "is_heap") ["side", "top", "thing"] (sp_is_heap K) :=
  df_of T.f_is_heap sc_is_heap (fun _ _ _ _ _ _ us hl => match us, hl with | [_, _, _], _ => rfl) (fun vs H Q E h => by
    obtain ⟨S, a, b, v, ps, rfl, _⟩ := h
    rfl) (fun cdv A outer s H E hr => w_is_heap T cdv A outer s H E hr) (fun vs H Q E h => r_is_heap T vs H Q E h)
end
end Pk
namespace Pk
open PySem PySem.Spec
open PyProof.Rows L2
/-! ## are_heaps -/
theorem sc_are_heaps : FnScope ["side", "top", "thing", "pairs", "found", "heap"] ["side", "top", "thing"] (defScope s_are_heaps) := ⟨rfl, rfl, rfl, by decide +kernel, rfl, by decide +kernel, by decide +kernel⟩
def sp_are_heaps (K : PySem.W.Frag) : Sp := fun vs H Q _ => ∃ (S : Hp) (a b : List Nat) (v : V) (hs : List (List (Nat × Nat))), vs = [.str (tx a), .str (tx b), v] ∧ Ex S H ∧ At S v (eHps hs) ∧ RowP a ∧ RowP b ∧ HeapsOk a b hs ∧ ∀ H', Ex H H' → Q (.bl true) H'
def t_are_heaps (K : PySem.W.Frag) : TS := (tSeq (tAsg (tCall (sp_pairs_of K) [] E0 (tCons (tVar 0) (tCons (tVar 1) tNil))) (gName 3))
  (tSeq (tIfS (tOr (tNot (tB (tCB (rIsi K) (tCons (tVar 2) (tCons (tC (.ty "list")) tNil))))) (tNot (tB (tCB (rAll K) (tCons (tLc (iList K (tVar 2)) (gName 5) tYes (tCall (sp_is_heap K) [] E0 (tCons (tVar 0) (tCons (tVar 1) (tCons (tVar 5) tNil)))) [5]) tNil))))) (tRet (tC (.bl false))) tNext)
  (tSeq (tAsg (tLst tNil) (gName 4))
  (tSeq (tFor (iList K (tVar 2)) (gName 5) (tDrop (tBM K "list" rExtend (tVar 4) (tCons (tVar 5) tNil))))
  (tRet (tOp (rEqD K) (tCB (rSortedPO K) (tCons (tVar 4) tNil)) (tVar 3)))))))
section
variable {P : Program} {w : World} {K : PySem.W.Frag} {mg : Str → Option Value} {base : Heap}
theorem w_are_heaps (T : Txt w K mg) (cdv : Value) (A : Around) (outer : List Env) (s : Shared) (H : Hp) (E : XK) (hr : Room 4 (A.deeper (envOfC "are_heaps" (defScope s_are_heaps) s.heap.objs.size (He.ga K "are_heaps") cdv))) :
    PSs (cxOf CX0 P w K mg base ["side", "top", "thing", "pairs", "found", "heap"] "are_heaps" (defScope s_are_heaps) (He.ga K "are_heaps") cdv A outer s H E).nox (defBody s_are_heaps) (t_are_heaps K) := by
  obtain ⟨⟨fd_pairs_of, F_pairs_of, b_pairs_of⟩, k_pairs_of⟩ := ok_pairs_of (P := P) (base := base) T
  obtain ⟨⟨fd_is_heap, F_is_heap, b_is_heap⟩, k_is_heap⟩ := ok_is_heap (P := P) (base := base) T
  exact (pss_cons (ps_set (i := 3) sc_are_heaps.nd rfl (Or.inl rfl) (pe_call F_pairs_of (hr.mono (by decide)) (by exact rfl) T.g_pairs_of k_pairs_of b_pairs_of .nil pass0 (pa_cons (pv 0) (pa_cons (pv 1) pa_nil))))
  (pss_cons (ps_if (PW.pt (pw_or (pt_not (pt_val (pe_callB call_isi (by exact rfl) T.n_isinstance (by decide +kernel) (pa_cons (pv 2) (pa_cons (pe_bltn (v := .ty "list") (by exact rfl) T.n_list (by decide +kernel) rfl) pa_nil))))) (pw_or1 (pt_not (pt_val (pe_callB (cr_all rfl) (by exact rfl) T.n_all (by decide +kernel) (pa_cons (pe_lc (own := [("heap", 5)]) (g := (gName 5)) (tt := tYes) rfl sc_are_heaps.nd (pi_list (pv 2)) (blkOk_by (N := ["side", "top", "thing", "pairs", "found", "heap"]) (sc := defScope s_are_heaps) (by decide +kernel)) (fun _ _ _ _ _ => (pg_name (i := 5) sc_are_heaps.nd rfl (Or.inl rfl))) (fun _ _ _ _ _ => pts_nil) (fun _ _ _ _ _ => (pe_call F_is_heap (hr.mono (by decide)) (by exact rfl) T.g_is_heap k_is_heap b_is_heap .nil pass0 (pa_cons (pv 0) (pa_cons (pv 1) (pa_cons (pv 5) pa_nil)))))) pa_nil))))))) (pss_one (ps_ret pe_bl)) pss_nil)
  (pss_cons (ps_set (i := 4) sc_are_heaps.nd rfl (Or.inl rfl) (pe_lst pa_nil))
  (pss_cons (ps_for PassesOwn.never rfl (pi_list (pv 2)) (pg_name (i := 5) sc_are_heaps.nd rfl (Or.inl rfl)) (pss_one (ps_expr (pe_bm PySem.F.plainAttrs_list PySem.F.slot_list_extend PySem.F.type_list_extend mt_extend (pv 4) (pa_cons (pv 5) pa_nil)))))
  (pss_one (ps_ret (pe_cmpR (op_eqD hr.units) (pe_callB cr_sortedPO (by exact rfl) T.n_sorted (by decide +kernel) (pa_cons (pv 4) pa_nil)) (pv 3) (nomark _))))))))
theorem r_are_heaps (T : Txt w K mg) (vs : List V) (H : Hp) (Q : VK) (E : XK) (h : sp_are_heaps K vs H Q E) : t_are_heaps K { nx := fun _ H' => Q .non H', rt := Q } (start ["side", "top", "thing", "pairs", "found", "heap"] vs) H := by
  obtain ⟨S, a, b, v, hs, rfl, eS, hv, hra, hrb, hok, k⟩ := h
  have za := hra.1
  have zb := hrb.1
  obtain ⟨zl, zf⟩ := heaps_len hok za zb
  obtain ⟨q, vs, rfl, hq, hA⟩ := hv.lst_
  have hn := hA.lenM
  refine x_setC (c_call (va_2 (val_var rfl) (val_var rfl)) ⟨S, a, b, rfl, eS, hra, hrb, fun S1 H1 v1 g1 hv1 => ?_⟩)
  have hq1 := g1.i _ _ (g1.s _ _ hq)
  refine x_ifC (or_f (Ans.to (ans_not (ans_val (val_isi (b := true) (val_var rfl) val_c (.ty _) (.base (.lst hq1)) (kit_ty (by decide +kernel))))) rfl) ?_)
  refine c_nota (c_tlc (S := S1) (fun R r => ⟨_, rfl, q, rfl, ⟨vs, SqL.of hq1⟩, r⟩) (walk_list (K := K) (a := q) (xs := vs)) (fun n S acc => acc = (List.replicate n true).map V.bl) g1.i (fun H' e => SqL.of (e _ _ (g1.s _ _ hq))) rfl (fun n S' H' acc x H'' R L hk g2 hF hy kR kL => ?_) (fun D S' H2 acc hF g2 sD hD eD => ?_))
  · obtain ⟨rfl, hx⟩ := hy
    obtain ⟨ps, hps, hat⟩ := hA.getM hx
    have hm := List.mem_of_getElem? hps
    have hml := flat_mem_len hm
    refine ⟨rfl, c_yes (te := tCall (sp_is_heap K) [] E0 _) (c_call (va_3 (val_var rfl) (val_var rfl) (val_var rfl)) ⟨S', a, b, x, ps, rfl, g2.i, hat.mono (g1.s.trans g2.s), hok.1 ps hm, by omega, by omega, by omega, fun H3 e3 => kR _ S' _ ((Gw.refl g2.i).any e3) ?_ ?_⟩)⟩
    · rw [hF, List.replicate_succ', List.map_append]; rfl
    · rw [hF, List.length_map, List.length_replicate]; omega
  refine ⟨D, _, rfl, SqL.of (by rw [eD, hF]), ?_⟩
  rw [show ((List.replicate vs.length true).all id) = true by simp]
  refine ⟨true, rfl, iteF ?_⟩
  have g3 := g1.trans g2
  refine x_setC (c_lst va_nil (by simp) fun l hl => ?_)
  have hl0 := g3.free hl
  have sl := g3.freeS hl
  have hqS := g3.s _ _ hq
  refine x_forL (K := K) (a := q) (xs := vs) (val_var rfl) (SqL.of ((g3.mut hl).i _ _ hqS)) (fun n σ' H' => ∃ (ws : List V) (z5 : Option V), σ' = [some (.str (tx a)), some (.str (tx b)), some (.ref q), some v1, some (.ref l), z5] ∧ Gw S H S' H' ∧ H' l = some (.lst ws) ∧ AtA S' ws ((hs.take n).flatten.map ePr)) ⟨[], none, rfl, g3.mut hl, upd_same, .nil⟩ (fun n σ' H' ⟨ws, z5, _, g, _⟩ => SqL.of (g.i _ _ hqS)) ?_ ?_
  · rintro n y σ' H' hy ⟨ws, z5, rfl, g, hw, hW⟩
    obtain ⟨ps, hps, hat⟩ := hA.getM hy
    obtain ⟨r, us, rfl, hr, hU⟩ := (hat.mono g3.s).lst_
    have hul := hU.lenM
    have hwl := hW.lenM
    have f1 : (hs.take n).flatten.length + ps.length ≤ 2304 := by
      have e : hs = hs.take n ++ ps :: hs.drop (n + 1) := by
        have hlt := (List.getElem?_eq_some_iff.mp hps)
        obtain ⟨hlt, e⟩ := hlt
        rw [← e, ← List.drop_eq_getElem_cons hlt, List.take_append_drop]
      have f := congrArg (fun z : List (List (Nat × Nat)) => z.flatten.length) e
      simp only [List.flatten_append, List.flatten_cons, List.length_append] at f
      omega
    refine ⟨_, rfl, .inl ⟨rfl, _, SqL.of hw⟩, _, rfl, l, r, ws, us, rfl, rfl, hw, g.i _ _ hr, small5 (by omega), ws ++ us, _, rfl, g.set hl0 sl, upd_same, ?_⟩
    rw [List.take_succ, hps, Option.toList_some, List.flatten_append, List.map_append]
    refine hW.app ?_
    rw [List.flatten_cons, List.flatten_nil, List.append_nil]
    exact hU
  · rintro σ' H' ⟨ws, z5, rfl, g, hw, hW⟩
    rw [List.take_of_length_le (by omega)] at hW
    have hW' : AtA S' ws ((hs.flatten.map yPr).map dII) := by rw [List.map_map]; exact hW
    refine x_retC (c_cb (va_1 (val_var rfl)) (c_sorted hw hW' g.i fun zs ys pp pm srt hY hpp => ?_))
    have e := heaps_sorted hok.2 pm srt
    have g5 := g.put (o := .lst ys) hpp
    have hv5 : At (upd S' pp (.lst ys)) v1 (ePrs (prs a b)) := hv1.mono (g2.s.trans (Ex.new (g.freeS hpp)))
    have hp5 : At (upd S' pp (.lst ys)) (.ref pp) (ePrs (prs a b)) := by
      rw [e, List.map_map] at hY
      exact .lst upd_same (hY.mono (Ex.new (g.freeS hpp)))
    refine ⟨_, rfl, ePrs (prs a b), ePrs (prs a b), hp5.dp g5.i, hv5.dp g5.i, (shp_prs _).ok (by decide), (shp_prs _).ok (by decide), ?_⟩
    rw [eqv_same (shp_prs _)]
    exact k _ g5.h
theorem ok_are_heaps (T : Txt w K mg) : Df P w K mg base 5 (He.ga K "are_heaps") ["side", "top", "thing"] (sp_are_heaps K) :=
  df_of T.f_are_heaps sc_are_heaps (fun _ _ _ _ _ _ us hl => match us, hl with | [_, _, _], _ => rfl) (fun vs H Q E h => by
    obtain ⟨S, a, b, v, hs, rfl, _⟩ := h
    rfl) (fun cdv A outer s H E hr => w_are_heaps T cdv A outer s H E hr) (fun vs H Q E h => r_are_heaps T vs H Q E h)
end
end Pk
namespace Pk
open PySem PySem.Spec
open PyProof.Rows L2
/-! ## shows_cost -/
theorem sc_shows_cost : FnScope ["side", "top", "thing", "changes", "heaps"] ["side", "top", "thing"] (defScope s_shows_cost) := ⟨rfl, rfl, rfl, by decide +kernel, rfl, by decide +kernel, by decide +kernel⟩
def sp_shows_cost (K : PySem.W.Frag) : Sp := fun vs H Q _ => ∃ (S : Hp) (a b : List Nat) (q : Addr) (v1 v2 : V) (cs : List Ch) (hs : List (List (Nat × Nat))), vs = [.str (tx a), .str (tx b), .ref q] ∧ Ex S H ∧ H q = some (.tup [v1, v2]) ∧ At S v1 (eChs cs) ∧ At S v2 (eHps hs) ∧ Plain a ∧ Plain b ∧ ChsOk cs ∧ olds cs = a ∧ news cs = b ∧ HeapsOk (part a) (part b) hs ∧ ∀ H', Ex H H' → Q (.bl (decide (pays cs + hs.length = a.length + b.length))) H'
def t_shows_cost (K : PySem.W.Frag) : TS := (tSeq (tDrop (tCall (sp_need_plains K) [] E0 (tCons (tVar 0) (tCons (tVar 1) tNil))))
  (tSeq (tIfS (tOr (tNot (tB (tCB (rIsi K) (tCons (tVar 2) (tCons (tC (.ty "tuple")) tNil))))) (tTest (tOp rNe (tCB (cLenL K) (tCons (tVar 2) tNil)) (tC (.int 2))))) (tRet (tC (.bl false))) tNext)
  (tSeq (tAsg (tVar 2) (gTup K 2 (gCons (gName 3) (gCons (gName 4) gNil))))
  (tSeq (tIfS (tOr (tNot (tB (tCall (sp_is_changes K) [] E0 (tCons (tVar 3) tNil)))) (tOr (tTest (tOp rNe (tCall (sp_old_row K) [] E0 (tCons (tVar 3) tNil)) (tVar 0))) (tTest (tOp rNe (tCall (sp_new_row K) [] E0 (tCons (tVar 3) tNil)) (tVar 1))))) (tRet (tC (.bl false))) tNext)
  (tSeq (tIfS (tNot (tB (tCall (sp_are_heaps K) [] E0 (tCons (tCall (sp_parted K) [] E0 (tCons (tVar 0) tNil)) (tCons (tCall (sp_parted K) [] E0 (tCons (tVar 1) tNil)) (tCons (tVar 4) tNil)))))) (tRet (tC (.bl false))) tNext)
  (tRet (tOp rEq (tOp oAdd (tCall (sp_paid K) [] E0 (tCons (tVar 3) tNil)) (tCB (cLenL K) (tCons (tVar 4) tNil))) (tOp oAdd (tCB cLenS (tCons (tVar 0) tNil)) (tCB cLenS (tCons (tVar 1) tNil))))))))))
section
variable {P : Program} {w : World} {K : PySem.W.Frag} {mg : Str → Option Value} {base : Heap}
theorem w_shows_cost (T : Txt w K mg) (cdv : Value) (A : Around) (outer : List Env) (s : Shared) (H : Hp) (E : XK) (hr : Room 5 (A.deeper (envOfC "shows_cost" (defScope s_shows_cost) s.heap.objs.size (He.ga K "shows_cost") cdv))) :
    PSs (cxOf CX0 P w K mg base ["side", "top", "thing", "changes", "heaps"] "shows_cost" (defScope s_shows_cost) (He.ga K "shows_cost") cdv A outer s H E).nox (defBody s_shows_cost) (t_shows_cost K) := by
  obtain ⟨⟨fd_need_plains, F_need_plains, b_need_plains⟩, k_need_plains⟩ := ok_need_plains (P := P) (base := base) T
  obtain ⟨⟨fd_is_changes, F_is_changes, b_is_changes⟩, k_is_changes⟩ := ok_is_changes (P := P) (base := base) T
  obtain ⟨⟨fd_old_row, F_old_row, b_old_row⟩, k_old_row⟩ := ok_old_row (P := P) (base := base) T
  obtain ⟨⟨fd_new_row, F_new_row, b_new_row⟩, k_new_row⟩ := ok_new_row (P := P) (base := base) T
  obtain ⟨⟨fd_parted, F_parted, b_parted⟩, k_parted⟩ := ok_parted (P := P) (base := base) T
  obtain ⟨⟨fd_are_heaps, F_are_heaps, b_are_heaps⟩, k_are_heaps⟩ := ok_are_heaps (P := P) (base := base) T
  obtain ⟨⟨fd_paid, F_paid, b_paid⟩, k_paid⟩ := ok_paid (P := P) (base := base) T
  exact (pss_cons (ps_expr (pe_call F_need_plains (hr.mono (by decide)) (by exact rfl) T.g_need_plains k_need_plains b_need_plains .nil pass0 (pa_cons (pv 0) (pa_cons (pv 1) pa_nil))))
  (pss_cons (ps_if (PW.pt (pw_or (pt_not (pt_val (pe_callB call_isi (by exact rfl) T.n_isinstance (by decide +kernel) (pa_cons (pv 2) (pa_cons (pe_bltn (v := .ty "tuple") (by exact rfl) T.n_tuple (by decide +kernel) rfl) pa_nil))))) (pw_or1 (pt_cmpR op_ne (pe_callB cl_lenL (by exact rfl) T.n_len PySem.boot_len (pa_cons (pv 2) pa_nil)) pe_int (nomark _))))) (pss_one (ps_ret pe_bl)) pss_nil)
  (pss_cons (ps_asg (pv 2) (pg_tup rfl (pgs_cons (pg_name (i := 3) sc_shows_cost.nd rfl (Or.inl rfl)) (pgs_cons (pg_name (i := 4) sc_shows_cost.nd rfl (Or.inl rfl)) pgs_nil))))
  (pss_cons (ps_if (PW.pt (pw_or (pt_not (pt_val (pe_call F_is_changes (hr.mono (by decide)) (by exact rfl) T.g_is_changes k_is_changes b_is_changes .nil pass0 (pa_cons (pv 3) pa_nil)))) (pw_or (pt_cmpR op_ne (pe_call F_old_row (hr.mono (by decide)) (by exact rfl) T.g_old_row k_old_row b_old_row .nil pass0 (pa_cons (pv 3) pa_nil)) (pv 0) (nomark _)) (pw_or1 (pt_cmpR op_ne (pe_call F_new_row (hr.mono (by decide)) (by exact rfl) T.g_new_row k_new_row b_new_row .nil pass0 (pa_cons (pv 3) pa_nil)) (pv 1) (nomark _)))))) (pss_one (ps_ret pe_bl)) pss_nil)
  (pss_cons (ps_if (pt_not (pt_val (pe_call F_are_heaps (hr.mono (by decide)) (by exact rfl) T.g_are_heaps k_are_heaps b_are_heaps .nil pass0 (pa_cons (pe_call F_parted (hr.mono (by decide)) (by exact rfl) T.g_parted k_parted b_parted .nil pass0 (pa_cons (pv 0) pa_nil)) (pa_cons (pe_call F_parted (hr.mono (by decide)) (by exact rfl) T.g_parted k_parted b_parted .nil pass0 (pa_cons (pv 1) pa_nil)) (pa_cons (pv 4) pa_nil)))))) (pss_one (ps_ret pe_bl)) pss_nil)
  (pss_one (ps_ret (pe_cmpR op_eq (pe_op op_add (pe_call F_paid (hr.mono (by decide)) (by exact rfl) T.g_paid k_paid b_paid .nil pass0 (pa_cons (pv 3) pa_nil)) (pe_callB cl_lenL (by exact rfl) T.n_len PySem.boot_len (pa_cons (pv 4) pa_nil))) (pe_op op_add (pe_callB cl_lenS (by exact rfl) T.n_len PySem.boot_len (pa_cons (pv 0) pa_nil)) (pe_callB cl_lenS (by exact rfl) T.n_len PySem.boot_len (pa_cons (pv 1) pa_nil))) (nomark _)))))))))
theorem r_shows_cost (T : Txt w K mg) (vs : List V) (H : Hp) (Q : VK) (E : XK) (h : sp_shows_cost K vs H Q E) : t_shows_cost K { nx := fun _ H' => Q .non H', rt := Q } (start ["side", "top", "thing", "changes", "heaps"] vs) H := by
  obtain ⟨S, a, b, q, v1, v2, cs, hs, rfl, eS, hq, hv1, hv2, hpa, hpb, hcs, ho, hnw, hok, k⟩ := h
  have za := hpa.1
  have zb := hpb.1
  refine x_dropC (c_call (va_2 (val_var rfl) (val_var rfl)) ⟨a, b, rfl, hpa, hpb, fun H1 e1 => ?_⟩)
  have hq1 := e1 _ _ hq
  have eS1 := eS.trans e1
  refine x_no (Ans.to (ans_orW (Ans.to (ans_not (ans_val (val_isi (b := true) (val_var rfl) val_c (.ty _) (.base (.tup hq1)) (kit_ty (by decide +kernel))))) rfl) (fun _ => ans_te (val_ne (val_lenT (val_var rfl) hq1) val_c rfl))) rfl) ?_
  refine x_setT ⟨_, rfl, q, _, rfl, SqT.of hq1, rfl, _, _, rfl, _, _, rfl, rfl, ?_⟩
  have hz := hcs.1
  refine x_ifC ⟨_, rfl, S, v1, cs, rfl, eS1, hv1, hcs, fun H2 e2 => ⟨true, rfl, ?_⟩⟩
  refine ⟨_, rfl, S, v1, cs, rfl, eS1.trans e2, hv1, by omega, fun H3 e3 => ⟨_, rfl, rfl, _, rfl, iteE (by rw [ho]; simp) ?_⟩⟩
  refine ⟨_, rfl, S, v1, cs, rfl, (eS1.trans e2).trans e3, hv1, by omega, fun H4 e4 => ⟨_, rfl, rfl, _, rfl, iteE (by rw [hnw]; simp) ?_⟩⟩
  have eS4 := ((eS1.trans e2).trans e3).trans e4
  refine x_ifC ⟨_, rfl, a, rfl, hpa, fun H5 e5 => ⟨_, rfl, b, rfl, hpb, fun H6 e6 => ⟨_, rfl, S, part a, part b, v2, hs, rfl, (eS4.trans e5).trans e6, hv2, part_row hpa, part_row hpb, hok, fun H7 e7 => ⟨true, rfl, iteE rfl ?_⟩⟩⟩⟩
  have eS7 := ((eS4.trans e5).trans e6).trans e7
  have eH7 := (((((e1.trans e2).trans e3).trans e4).trans e5).trans e6).trans e7
  refine x_retC ⟨_, rfl, S, v1, cs, rfl, eS7, hv1, hcs, fun H8 e8 => ?_⟩
  obtain ⟨r, us, rfl, hr, hU⟩ := hv2.lst_
  have hul := hU.lenM
  refine (val_lenL (val_var rfl) ((eS7.trans e8) _ _ hr)) _ ⟨_, _, rfl, rfl, (val_I0 (val_lenS (val_var rfl) (by omega)) (val_lenS (val_var rfl) (by omega))) _ ⟨rfl, ?_⟩⟩
  rw [hul]
  have e9 : decide (V.int ((pays cs : Nat) + (hs.length : Nat) : Int) = V.int ((a.length : Int) + (b.length : Int))) = decide (pays cs + hs.length = a.length + b.length) := decide_eq_decide.mpr ⟨fun q => by have := V.int.inj q; omega, fun q => by congr 1; omega⟩
  rw [e9]
  exact k _ (eH7.trans e8)
theorem ok_shows_cost (T : Txt w K mg) : Df P w K mg base 6 (He.ga K "shows_cost") ["side", "top", "thing"] (sp_shows_cost K) :=
  df_of T.f_shows_cost sc_shows_cost (fun _ _ _ _ _ _ us hl => match us, hl with | [_, _, _], _ => rfl) (fun vs H Q E h => by
    obtain ⟨S, a, b, q, v1, v2, cs, hs, rfl, _⟩ := h
    rfl) (fun cdv A outer s H E hr => w_shows_cost T cdv A outer s H E hr) (fun vs H Q E h => r_shows_cost T vs H Q E h)
end
end Pk
namespace Pk
open PySem PySem.Spec
open PyProof.Rows L2
/-! ## _law_shown -/
theorem sc_law_shown : FnScope ["_law_row_here", "_law_goal", "_law_drawn", "_law_heaps_here", "_law_handed", "_law_due", "_law_found", "_law_heap"] ["_law_row_here", "_law_goal", "_law_drawn", "_law_heaps_here"] (defScope s_law_shown) := ⟨rfl, rfl, rfl, by decide +kernel, rfl, by decide +kernel, by decide +kernel⟩
def sp_law_shown (K : PySem.W.Frag) : Sp := fun vs H Q _ => ∃ (S : Hp) (a b : List Nat) (v1 v2 : V) (cs : List Ch) (hs : List (List (Nat × Nat))), vs = [.str (tx a), .str (tx b), v1, v2] ∧ Ex S H ∧ At S v1 (eChs cs) ∧ At S v2 (eHps hs) ∧ Plain a ∧ Plain b ∧ ChsOk cs ∧ olds cs = a ∧ news cs = b ∧ HeapsOk (part a) (part b) hs ∧ lc (part a) (part b) (2 * a.length) (2 * b.length) ≤ hs.length ∧ ∀ H', Ex H H' → Q (.bl true) H'
def t_law_shown (K : PySem.W.Frag) : TS := (tSeq (tAsg (tTup (tCons (tCB (cListOf K) (tCons (tVar 2) tNil)) (tCons (tLc (iList K (tVar 3)) (gName 7) tYes (tCB (cListOf K) (tCons (tVar 7) tNil)) [7]) tNil))) (gName 4))
  (tSeq (tAsg (tOp rEq (tOp oAdd (tCall (sp_law_pays K) [] E0 (tCons (tVar 2) tNil)) (tCB (cLenL K) (tCons (tVar 3) tNil))) (tOp oAdd (tCB cLenS (tCons (tVar 0) tNil)) (tCB cLenS (tCons (tVar 1) tNil)))) (gName 5))
  (tSeq (tIfS (tTest (tOp oLt (tOp oAdd (tCall (sp_law_pays K) [] E0 (tCons (tVar 2) tNil)) (tCB (cLenL K) (tCons (tVar 3) tNil))) (tOp oAdd (tCB cLenS (tCons (tVar 0) tNil)) (tCB cLenS (tCons (tVar 1) tNil))))) (tRet (tC (.bl false))) tNext)
  (tSeq (tAsg (tCall (sp_shows_cost K) [] E0 (tCons (tVar 0) (tCons (tVar 1) (tCons (tVar 4) tNil)))) (gName 6))
  (tSeq (tIfS (tOr (tNot (tB (tCB (rIsi K) (tCons (tVar 6) (tCons (tC (.ty "bool")) tNil))))) (tOr (tTest (tOp rNe (tVar 6) (tVar 5))) (tTest (tOp (rNeD K) (tVar 4) (tTup (tCons (tVar 2) (tCons (tVar 3) tNil))))))) (tRet (tC (.bl false))) tNext)
  (tRet (tOrV (tNotV (tVar 5)) (tOp rEq (tCall (sp_cost K) [] E0 (tCons (tVar 0) (tCons (tVar 1) tNil))) (tCall (sp_law_pays K) [] E0 (tCons (tVar 2) tNil))))))))))
section
variable {P : Program} {w : World} {K : PySem.W.Frag} {mg : Str → Option Value} {base : Heap}
theorem w_law_shown (T : Txt w K mg) (cdv : Value) (A : Around) (outer : List Env) (s : Shared) (H : Hp) (E : XK) (hr : Room 6 (A.deeper (envOfC "_law_shown" (defScope s_law_shown) s.heap.objs.size (He.ga K "_law_shown") cdv))) :
    PSs (cxOf CX0 P w K mg base ["_law_row_here", "_law_goal", "_law_drawn", "_law_heaps_here", "_law_handed", "_law_due", "_law_found", "_law_heap"] "_law_shown" (defScope s_law_shown) (He.ga K "_law_shown") cdv A outer s H E).nox (defBody s_law_shown) (t_law_shown K) := by
  obtain ⟨⟨fd_law_pays, F_law_pays, b_law_pays⟩, k_law_pays⟩ := ok_law_pays (P := P) (base := base) T
  obtain ⟨⟨fd_shows_cost, F_shows_cost, b_shows_cost⟩, k_shows_cost⟩ := ok_shows_cost (P := P) (base := base) T
  obtain ⟨⟨fd_cost, F_cost, b_cost⟩, k_cost⟩ := ok_cost (P := P) (base := base) T
  exact (pss_cons (ps_set (i := 4) sc_law_shown.nd rfl (Or.inl rfl) (pe_tup (pa_cons (pe_callTy cl_listOf (by exact rfl) T.n_list (by decide +kernel) (pa_cons (pv 2) pa_nil)) (pa_cons (pe_lc (own := [("_law_heap", 7)]) (g := (gName 7)) (tt := tYes) rfl sc_law_shown.nd (pi_list (pv 3)) (blkOk_by (N := ["_law_row_here", "_law_goal", "_law_drawn", "_law_heaps_here", "_law_handed", "_law_due", "_law_found", "_law_heap"]) (sc := defScope s_law_shown) (by decide +kernel)) (fun _ _ _ _ _ => (pg_name (i := 7) sc_law_shown.nd rfl (Or.inl rfl))) (fun _ _ _ _ _ => pts_nil) (fun _ _ _ _ _ => (pe_callTy cl_listOf (by exact rfl) T.n_list (by decide +kernel) (pa_cons (pv 7) pa_nil)))) pa_nil))))
  (pss_cons (ps_set (i := 5) sc_law_shown.nd rfl (Or.inl rfl) (pe_cmpR op_eq (pe_op op_add (pe_call F_law_pays (hr.mono (by decide)) (by exact rfl) T.g_law_pays k_law_pays b_law_pays .nil pass0 (pa_cons (pv 2) pa_nil)) (pe_callB cl_lenL (by exact rfl) T.n_len PySem.boot_len (pa_cons (pv 3) pa_nil))) (pe_op op_add (pe_callB cl_lenS (by exact rfl) T.n_len PySem.boot_len (pa_cons (pv 0) pa_nil)) (pe_callB cl_lenS (by exact rfl) T.n_len PySem.boot_len (pa_cons (pv 1) pa_nil))) (nomark _)))
  (pss_cons (ps_if (pt_cmpR op_lt (pe_op op_add (pe_call F_law_pays (hr.mono (by decide)) (by exact rfl) T.g_law_pays k_law_pays b_law_pays .nil pass0 (pa_cons (pv 2) pa_nil)) (pe_callB cl_lenL (by exact rfl) T.n_len PySem.boot_len (pa_cons (pv 3) pa_nil))) (pe_op op_add (pe_callB cl_lenS (by exact rfl) T.n_len PySem.boot_len (pa_cons (pv 0) pa_nil)) (pe_callB cl_lenS (by exact rfl) T.n_len PySem.boot_len (pa_cons (pv 1) pa_nil))) (nomark _)) (pss_one (ps_ret pe_bl)) pss_nil)
  (pss_cons (ps_set (i := 6) sc_law_shown.nd rfl (Or.inl rfl) (pe_call F_shows_cost (hr.mono (by decide)) (by exact rfl) T.g_shows_cost k_shows_cost b_shows_cost .nil pass0 (pa_cons (pv 0) (pa_cons (pv 1) (pa_cons (pv 4) pa_nil)))))
  (pss_cons (ps_if (PW.pt (pw_or (pt_not (pt_val (pe_callB call_isi (by exact rfl) T.n_isinstance (by decide +kernel) (pa_cons (pv 6) (pa_cons (pe_bltn (v := .ty "bool") (by exact rfl) T.n_bool (by decide +kernel) rfl) pa_nil))))) (pw_or (pt_cmpR op_ne (pv 6) (pv 5) (nomark _)) (pw_or1 (pt_cmpR (op_neD hr.units) (pv 4) (pe_tup (pa_cons (pv 2) (pa_cons (pv 3) pa_nil))) (nomark _)))))) (pss_one (ps_ret pe_bl)) pss_nil)
  (pss_one (ps_ret (pe_or (pe_not (pv 5)) (pe_one (pe_cmpR op_eq (pe_call F_cost (hr.mono (by decide)) (by exact rfl) T.g_cost k_cost b_cost .nil pass0 (pa_cons (pv 0) (pa_cons (pv 1) pa_nil))) (pe_call F_law_pays (hr.mono (by decide)) (by exact rfl) T.g_law_pays k_law_pays b_law_pays .nil pass0 (pa_cons (pv 2) pa_nil)) (nomark _)))))))))))
theorem r_law_shown (T : Txt w K mg) (vs : List V) (H : Hp) (Q : VK) (E : XK) (h : sp_law_shown K vs H Q E) : t_law_shown K { nx := fun _ H' => Q .non H', rt := Q } (start ["_law_row_here", "_law_goal", "_law_drawn", "_law_heaps_here", "_law_handed", "_law_due", "_law_found", "_law_heap"] vs) H := by
  obtain ⟨S, a, b, v1, v2, cs, hs, rfl, eS, hv1, hv2, hpa, hpb, hcs, ho, hnw, hok, hlc, k⟩ := h
  have za := hpa.1
  have zb := hpb.1
  have zc := hcs.1
  obtain ⟨zl, zf⟩ := heaps_len hok (part_row hpa).1 (part_row hpb).1
  have w1 := hv1
  have w2 := hv2
  obtain ⟨p1, vs1, rfl, hp1, hA1⟩ := w1.lst_
  obtain ⟨p2, vs2, rfl, hp2, hA2⟩ := w2.lst_
  have hn2 := hA2.lenM
  have pay := cost_le cs
  rw [ho, hnw] at pay
  have lcp := lc_part hpa hpb a.length b.length (Nat.le_refl _) (Nat.le_refl _)
  refine x_setC (tup_C (cons_C (c_cb (va_1 (val_var rfl)) ⟨p1, vs1, rfl, .inl (SqL.of (eS _ _ hp1)), fun l1 hl1 => ?_⟩)))
  have g1 := (Gw.refl eS).put (o := .lst vs1) hl1
  have q1 : upd S l1 (.lst vs1) l1 = some (.lst vs1) := upd_same
  have e1 : Ex S (upd S l1 (.lst vs1)) := Ex.new (eS.free hl1)
  generalize upd S l1 (.lst vs1) = S1 at g1 q1 e1
  generalize upd H l1 (.lst vs1) = H1 at g1
  refine cons_C (c_copy (K := K) (S := S1) (H := H1) (q := p2) (vs := vs2) (hs := hs) (show 7 < 8 by decide) (fun R h => ⟨_, rfl, p2, rfl, ⟨vs2, SqL.of (g1.i _ _ (e1 _ _ hp2))⟩, h⟩) (e1 _ _ hp2) (hA2.mono e1) g1.i (by omega) (fun S2 H2 D acc g2 sD hD eD a2 => ⟨by show 2 ≤ sizeLine; decide, fun t ht => ?_⟩))
  have g3 := (g1.trans g2).frz (g1.free hD) sD eD
  have g4 := g3.put (o := .tup [.ref l1, .ref D]) ht
  have m1 := (Ex.new sD : Ex S2 (upd S2 D (.lst acc)))
  have m2 : Ex (upd S2 D (.lst acc)) (upd (upd S2 D (.lst acc)) t (.tup [.ref l1, .ref D])) := Ex.new (g3.freeS ht)
  have dD : At (upd (upd S2 D (.lst acc)) t (.tup [.ref l1, .ref D])) (.ref D) (eHps hs) := (At.lst upd_same (a2.mono m1)).mono m2
  have dl : At (upd (upd S2 D (.lst acc)) t (.tup [.ref l1, .ref D])) (.ref l1) (eChs cs) := (At.lst (g2.s _ _ q1) (hA1.mono (e1.trans g2.s))).mono (m1.trans m2)
  have ht4 : upd (upd S2 D (.lst acc)) t (.tup [.ref l1, .ref D]) t = some (.tup [.ref l1, .ref D]) := upd_same
  have eS4 : Ex S (upd (upd S2 D (.lst acc)) t (.tup [.ref l1, .ref D])) := ((e1.trans g2.s).trans m1).trans m2
  generalize upd (upd S2 D (.lst acc)) t (.tup [.ref l1, .ref D]) = S4 at g4 dD dl ht4 eS4
  generalize upd H2 t (.tup [.ref l1, .ref D]) = H4 at g4
  have hv1' := hv1.mono eS4
  have hv2' := hv2.mono eS4
  have lens : ∀ (σ : L2.St) H', σ[0]? = some (some (.str (tx a))) → σ[1]? = some (some (.str (tx b))) → Val (tOp oAdd (tCB cLenS (tCons (tVar 0) tNil)) (tCB cLenS (tCons (tVar 1) tNil))) σ H' (.int ((a.length : Int) + (b.length : Int))) := fun σ H' h1 h2 => val_I0 (val_lenS (val_var h1) (by omega)) (val_lenS (val_var h2) (by omega))
  have payl : ∀ (σ : L2.St) H' (R : VK), σ[2]? = some (some (.ref p1)) → σ[3]? = some (some (.ref p2)) → Ex S4 H' → (∀ H'', Ex H' H'' → R (.int ((pays cs : Nat) + (vs2.length : Nat) : Int)) H'') → tOp oAdd (tCall (sp_law_pays K) [] E0 (tCons (tVar 2) tNil)) (tCB (cLenL K) (tCons (tVar 3) tNil)) σ H' R := fun σ H' R h1 h2 e h => op_C (c_call (va_1 (val_var h1)) ⟨S4, _, cs, rfl, e, hv1', by omega, fun H'' e2 => (val_lenL (val_var h2) ((e.trans e2) _ _ (eS4 _ _ hp2))) _ ⟨_, _, rfl, rfl, h H'' e2⟩⟩)
  have due : decide (V.int ((pays cs : Nat) + (vs2.length : Nat) : Int) = V.int ((a.length : Int) + (b.length : Int))) = decide (pays cs + hs.length = a.length + b.length) := decide_eq_decide.mpr ⟨fun q => by have := V.int.inj q; omega, fun q => by congr 1; omega⟩
  refine x_setC (op_C (payl _ _ _ rfl rfl g4.i fun H5 e5 => (lens _ _ rfl rfl) _ ⟨rfl, ?_⟩))
  rw [due]
  have i5 := g4.i.trans e5
  refine x_ifC (op_C (payl _ _ _ rfl rfl i5 fun H6 e6 => (lens _ _ rfl rfl) _ ⟨_, _, rfl, rfl, ⟨_, rfl, iteE (decide_eq_false (by omega)) ?_⟩⟩))
  have i6 := i5.trans e6
  refine x_setC (c_call (va_3 (val_var rfl) (val_var rfl) (val_var rfl)) ⟨S4, a, b, t, .ref l1, .ref D, cs, hs, rfl, i6, i6 _ _ ht4, dl, dD, hpa, hpb, hcs, ho, hnw, hok, fun H7 e7 => ?_⟩)
  have i7 := i6.trans e7
  have eH7 := ((g4.h.trans e5).trans e6).trans e7
  refine x_ifC (or_f (Ans.to (ans_not (ans_val (val_isi (b := true) (val_var rfl) val_c (.ty _) (.base (.bl _)) (kit_ty (by decide +kernel))))) rfl) (or_f (Ans.to (ans_te (val_ne (val_var rfl) (val_var rfl) rfl)) (by simp)) ?_))
  refine op_C ((val_var rfl) _ (c_tup (va_2 (val_var rfl) (val_var rfl)) (by simp) fun u hu => ?_))
  have eU := Ex.new (o := .tup [.ref p1, .ref p2]) hu
  have sh : Shp 5 (.tuple [eChs cs, eHps hs]) := shp_tup fun x hx => by
    rcases List.mem_cons.mp hx with e | hx
    · rw [e]
      have := shp_chs hcs.2
      exact ⟨this.1, Nat.le_trans this.2 (by decide)⟩
    · rw [List.mem_singleton.mp hx]; exact shp_hps hs
  refine ⟨.tuple [eChs cs, eHps hs], .tuple [eChs cs, eHps hs], .tup (SqT.of ((i7.trans eU) _ _ ht4)) (.cons (dl.dp (i7.trans eU)) (.cons (dD.dp (i7.trans eU)) .nil)), .tup (SqT.of upd_same) (.cons (hv1'.dp (i7.trans eU)) (.cons (hv2'.dp (i7.trans eU)) .nil)), sh.ok (by decide), sh.ok (by decide), ⟨_, rfl, iteE (by rw [eqv_same sh]; rfl) ?_⟩⟩
  have i8 := i7.trans eU
  have eH8 := eH7.trans eU
  generalize upd H7 u (.tup [.ref p1, .ref p2]) = H8 at i8 eH8
  refine x_retC (or_C (a := !decide (pays cs + hs.length = a.length + b.length)) (val_notV (val_var rfl)) ?_)
  by_cases hd : pays cs + hs.length = a.length + b.length
  · refine iteE (by simp [hd]) (op_C (c_call (va_2 (val_var rfl) (val_var rfl)) ⟨a, b, rfl, hpa, hpb, fun H9 e9 => c_call (va_1 (val_var rfl)) ⟨S4, _, cs, rfl, i8.trans e9, hv1', by omega, fun H10 e10 => ⟨rfl, ?_⟩⟩⟩))
    rw [decide_eq_true (by congr 1; omega)]
    exact k _ ((eH8.trans e9).trans e10)
  · exact iteY (by simp [hd]) (k _ eH8)
theorem ok_law_shown (T : Txt w K mg) : Df P w K mg base 7 (He.ga K "_law_shown") ["_law_row_here", "_law_goal", "_law_drawn", "_law_heaps_here"] (sp_law_shown K) :=
  df_of T.f_law_shown sc_law_shown (fun _ _ _ _ _ _ us hl => match us, hl with | [_, _, _, _], _ => rfl) (fun vs H Q E h => by
    obtain ⟨S, a, b, v1, v2, cs, hs, rfl, _⟩ := h
    rfl) (fun cdv A outer s H E hr => w_law_shown T cdv A outer s H E hr) (fun vs H Q E h => r_law_shown T vs H Q E h)
end
end Pk
namespace Pk
open PySem PySem.Spec
open PyProof.Rows L2
/-! ## _law_part_one -/
theorem sc_law_part_one : FnScope ["_law_heaps_here", "_law_at", "_law_heap", "_law_head", "_law_one"] ["_law_heaps_here", "_law_at"] (defScope s_law_part_one) := ⟨rfl, rfl, rfl, by decide +kernel, rfl, by decide +kernel, by decide +kernel⟩
def sp_law_part_one (K : PySem.W.Frag) : Sp := fun vs H Q _ => ∃ (S : Hp) (a b : List Nat) (v : V) (hs : List (List (Nat × Nat))) (n : Int), vs = [v, .int n] ∧ Ex S H ∧ At S v (eHps hs) ∧ HeapsOk a b hs ∧ a.length ≤ 48 ∧ b.length ≤ 48 ∧ (∀ H', Ex H H' → Q .non H') ∧ ∀ S' H' p hs', Gw S H S' H' → At S' (.ref p) (eHps hs') → HeapsOk a b hs' → hs'.length = hs.length + 1 → Q (.ref p) H'
def t_law_part_one (K : PySem.W.Frag) : TS := (tSeq (tIfS (tOr (tTest (tOp (rEqD K) (tVar 0) (tLst tNil))) (tTest (tOp oLt (tCB (cLenL K) (tCons (tOp (rIxL K) (tVar 0) (tOp oMod (tVar 1) (tCB (cLenL K) (tCons (tVar 0) tNil)))) tNil)) (tC (.int 2))))) (tRet (tC .non)) tNext)
  (tSeq (tAsg (tOp (rIxL K) (tVar 0) (tOp oMod (tVar 1) (tCB (cLenL K) (tCons (tVar 0) tNil)))) (gName 2))
  (tSeq (tAsg (tLc (iList K (tSl (rSlL K) (tVar 0) tNoPart (tPart (tOp oMod (tVar 1) (tCB (cLenL K) (tCons (tVar 0) tNil)))))) (gName 4) tYes (tCB (cListOf K) (tCons (tVar 4) tNil)) [4]) (gName 3))
  (tRet (tOp rCat (tOp rCat (tVar 3) (tLst (tCons (tSl (rSlL K) (tVar 2) (tPart (tC (.int 1))) tNoPart) (tCons (tSl (rSlL K) (tVar 2) tNoPart (tPart (tC (.int 1)))) tNil)))) (tLc (iList K (tSl (rSlL K) (tVar 0) (tPart (tOp oAdd (tOp oMod (tVar 1) (tCB (cLenL K) (tCons (tVar 0) tNil))) (tC (.int 1)))) tNoPart)) (gName 4) tYes (tCB (cListOf K) (tCons (tVar 4) tNil)) [4]))))))
section
variable {P : Program} {w : World} {K : PySem.W.Frag} {mg : Str → Option Value} {base : Heap}
theorem w_law_part_one (T : Txt w K mg) (cdv : Value) (A : Around) (outer : List Env) (s : Shared) (H : Hp) (E : XK) (hr : Room 0 (A.deeper (envOfC "_law_part_one" (defScope s_law_part_one) s.heap.objs.size (He.ga K "_law_part_one") cdv))) :
    PSs (cxOf CX0 P w K mg base ["_law_heaps_here", "_law_at", "_law_heap", "_law_head", "_law_one"] "_law_part_one" (defScope s_law_part_one) (He.ga K "_law_part_one") cdv A outer s H E).nox (defBody s_law_part_one) (t_law_part_one K) := by
  exact (pss_cons (ps_if (PW.pt (pw_or (pt_cmpR (op_eqD hr.units) (pv 0) (pe_lst pa_nil) (nomark _)) (pw_or1 (pt_cmpR op_lt (pe_callB cl_lenL (by exact rfl) T.n_len PySem.boot_len (pa_cons (pe_ix ix_list (pv 0) (pe_op op_mod (pv 1) (pe_callB cl_lenL (by exact rfl) T.n_len PySem.boot_len (pa_cons (pv 0) pa_nil))) (fun _ _ => rfl)) pa_nil)) pe_int (nomark _))))) (pss_one (ps_ret pe_non)) pss_nil)
  (pss_cons (ps_set (i := 2) sc_law_part_one.nd rfl (Or.inl rfl) (pe_ix ix_list (pv 0) (pe_op op_mod (pv 1) (pe_callB cl_lenL (by exact rfl) T.n_len PySem.boot_len (pa_cons (pv 0) pa_nil))) (fun _ _ => rfl)))
  (pss_cons (ps_setLc (i := 3) (own := [("_law_one", 4)]) (g := (gName 4)) (tt := tYes) rfl sc_law_part_one.nd rfl rfl (sw_true rfl rfl rfl (by decide +kernel)) (pi_list (pe_slice sl_list (pv 0) po_none (po_some (pe_op op_mod (pv 1) (pe_callB cl_lenL (by exact rfl) T.n_len PySem.boot_len (pa_cons (pv 0) pa_nil)))))) (blkOk_by (N := ["_law_heaps_here", "_law_at", "_law_heap", "_law_head", "_law_one"]) (sc := defScope s_law_part_one) (by decide +kernel)) (fun _ _ _ _ _ => (pg_name (i := 4) sc_law_part_one.nd rfl (Or.inl rfl))) (fun _ _ _ _ _ => pts_nil) (fun _ _ _ _ _ => (pe_callTy cl_listOf (by exact rfl) T.n_list (by decide +kernel) (pa_cons (pv 4) pa_nil))))
  (pss_one (ps_ret (pe_op op_cat (pe_op op_cat (pv 3) (pe_lst (pa_cons (pe_slice sl_list (pv 2) (po_some pe_int) po_none) (pa_cons (pe_slice sl_list (pv 2) po_none (po_some pe_int)) pa_nil)))) (pe_lc (own := [("_law_one", 4)]) (g := (gName 4)) (tt := tYes) rfl sc_law_part_one.nd (pi_list (pe_slice sl_list (pv 0) (po_some (pe_op op_add (pe_op op_mod (pv 1) (pe_callB cl_lenL (by exact rfl) T.n_len PySem.boot_len (pa_cons (pv 0) pa_nil))) pe_int)) po_none)) (blkOk_by (N := ["_law_heaps_here", "_law_at", "_law_heap", "_law_head", "_law_one"]) (sc := defScope s_law_part_one) (by decide +kernel)) (fun _ _ _ _ _ => (pg_name (i := 4) sc_law_part_one.nd rfl (Or.inl rfl))) (fun _ _ _ _ _ => pts_nil) (fun _ _ _ _ _ => (pe_callTy cl_listOf (by exact rfl) T.n_list (by decide +kernel) (pa_cons (pv 4) pa_nil))))))))))
theorem r_law_part_one (T : Txt w K mg) (vs : List V) (H : Hp) (Q : VK) (E : XK) (h : sp_law_part_one K vs H Q E) : t_law_part_one K { nx := fun _ H' => Q .non H', rt := Q } (start ["_law_heaps_here", "_law_at", "_law_heap", "_law_head", "_law_one"] vs) H := by
  obtain ⟨S, a, b, v, hs, n, rfl, eS, hv, hok, za, zb, kN, k⟩ := h
  obtain ⟨zl, zf⟩ := heaps_len hok za zb
  have i1 := hv
  obtain ⟨p, vs, rfl, hp, hA⟩ := i1.lst_
  have hn := hA.lenM
  refine x_ifC ⟨_, rfl, by show 0 ≤ sizeLine; decide, fun t ht => ?_⟩
  have e1 := Ex.new (o := .lst []) ht
  refine ⟨eHps hs, .list [], At.dp (eS.trans e1) hv, .lst (SqL.of upd_same) .nil, (shp_hps hs).ok (by decide), by decide +kernel, ⟨_, rfl, ?_⟩⟩
  have eS1 := eS.trans e1
  generalize upd H t (.lst []) = H1 at e1 eS1 ⊢
  by_cases h0 : hs = []
  · subst h0
    have ev : PyData.eqv (eHps []) (.list []) = true := eqv_same (shp_hps [])
    exact iteY ev (iteT (kN _ e1))
  have hpos : 0 < hs.length := List.length_pos_iff.mpr h0
  have ev : PyData.eqv (eHps hs) (.list []) = false := by
    cases hs with
    | nil => exact absurd rfl h0
    | cons h r => simp [eHps, PyData.eqv, PyData.eqvAll]
  refine iteE ev ?_
  obtain ⟨j, hj, hjl⟩ : ∃ j : Nat, n % (vs.length : Int) = (j : Int) ∧ j < hs.length := ⟨(n % (vs.length : Int)).toNat, by have := Int.emod_nonneg n (show (vs.length : Int) ≠ 0 by omega); omega, by have := Int.emod_nonneg n (show (vs.length : Int) ≠ 0 by omega); have := Int.emod_lt_of_pos n (show (0 : Int) < vs.length by omega); omega⟩
  obtain ⟨h, hh⟩ : ∃ h, hs[j]? = some h := ⟨_, List.getElem?_eq_getElem hjl⟩
  obtain ⟨vh, hvh, hat⟩ := hA.getF hh
  obtain ⟨ph, us, rfl, hph, hU⟩ := hat.lst_
  have hul := hU.lenM
  have md : ∀ (σ : L2.St) (H' : Hp), σ[0]? = some (some (.ref p)) → σ[1]? = some (some (.int n)) → Ex S H' → Val (tOp oMod (tVar 1) (tCB (cLenL K) (tCons (tVar 0) tNil))) σ H' (.int (j : Int)) := fun σ H' s0 s1 e => val_is (val_I (val_var s1) (val_lenL (val_var s0) (e _ _ hp)) (by omega)) (by rw [hj])
  have hp_ : ∀ (σ : L2.St) (H' : Hp), σ[0]? = some (some (.ref p)) → σ[1]? = some (some (.int n)) → Ex S H' → Val (tOp (rIxL K) (tVar 0) (tOp oMod (tVar 1) (tCB (cLenL K) (tCons (tVar 0) tNil)))) σ H' (.ref ph) := fun σ H' s0 s1 e => val_ixL (val_var s0) (md σ H' s0 s1 e) (e _ _ hp) (at_nat rfl hvh)
  have tlt : Ans (tTest (tOp oLt (tCB (cLenL K) (tCons (tOp (rIxL K) (tVar 0) (tOp oMod (tVar 1) (tCB (cLenL K) (tCons (tVar 0) tNil)))) tNil)) (tC (.int 2)))) [some (.ref p), some (.int n), none, none, none] H1 (decide (us.length < 2)) := Ans.to (ans_te (val_I0 (val_lenL (hp_ _ _ rfl rfl eS1) (eS1 _ _ hph)) val_c)) (decide_eq_decide.mpr (by omega))
  refine tlt _ ?_
  by_cases h2 : us.length < 2
  · exact iteY (decide_eq_true h2) (kN _ e1)
  refine iteE (decide_eq_false h2) ?_
  have hsplit : hs = hs.take j ++ h :: hs.drop (j + 1) := by
    obtain ⟨l1, l2⟩ := List.getElem?_eq_some_iff.mp hh
    rw [← l2, ← List.drop_eq_getElem_cons l1, List.take_append_drop]
  have ok2 : HeapsOk a b (hs.take j ++ [h.drop 1, h.take 1] ++ hs.drop (j + 1)) := split_ok (by rw [← hsplit]; exact hok) (by omega)
  refine x_set (hp_ _ _ rfl rfl eS1) ?_
  have g1 := (Gw.refl eS).any e1
  refine x_setC (c_copyS (K := K) (S := S) (vs := vs.take j) (hs := hs.take j) (show 4 < 5 by decide) (fun R h => ⟨_, rfl, (md _ _ rfl rfl eS1) _ ⟨_, rfl, p, vs, rfl, SqL.of (eS1 _ _ hp), fun q hq => ⟨q, rfl, ⟨_, SqL.of upd_same⟩, by rw [cut_to]; exact h q hq⟩⟩⟩) (by rw [List.map_take]; exact hA.take j) eS1 (by rw [List.length_take]; omega) (fun S2 H2 D1 acc1 g2 sD1 hD1 eD1 a1 => ?_))
  have g3 := g1.trans g2
  have e3 := g2.s.trans g2.i
  have gD1 := g3.frz (e1.free hD1) sD1 eD1
  have k1 : upd S2 D1 (.lst acc1) D1 = some (.lst acc1) := upd_same
  have eD : Ex S2 (upd S2 D1 (.lst acc1)) := Ex.new sD1
  generalize upd S2 D1 (.lst acc1) = S3 at gD1 k1 eD
  have hl1 := a1.lenM
  have hl1' : (hs.take j).length ≤ 2304 := by rw [List.length_take]; omega
  have hph3 := gD1.i _ _ (eD _ _ (g2.s _ _ hph))
  -- the heap without its first, and its first
  refine x_retC (op_C (op_C ((val_var rfl) _ (lst_C (cons_C ⟨_, rfl, _, rfl, ph, us, rfl, SqL.of hph3, fun q1 hq1 => cons_C ⟨_, rfl, _, rfl, ph, us, rfl, SqL.of (upd_get hph3 hq1), fun q2 hq2 => ⟨by show 2 ≤ sizeLine; decide, fun q3 hq3 => ?_⟩⟩⟩)))))
  have c1 : cutV us (some (1 : Int)) none = us.drop 1 := cut_from us 1
  have c2 : cutV us none (some (1 : Int)) = us.take 1 := cut_to us 1
  rw [c1] at hq2 hq3
  rw [c2] at hq3
  rw [c1, c2]
  have g4 := gD1.put (o := .lst (us.drop 1)) hq1
  have g5 := g4.put (o := .lst (us.take 1)) hq2
  have g6 := g5.mut (o := .lst [.ref q1, .ref q2]) hq3
  have m1 : upd (upd S3 q1 (.lst (us.drop 1))) q2 (.lst (us.take 1)) q1 = some (.lst (us.drop 1)) := upd_get upd_same (g4.freeS hq2)
  have m2 : upd (upd S3 q1 (.lst (us.drop 1))) q2 (.lst (us.take 1)) q2 = some (.lst (us.take 1)) := upd_same
  have e6 : Ex S3 (upd (upd S3 q1 (.lst (us.drop 1))) q2 (.lst (us.take 1))) := (Ex.new (gD1.freeS hq1)).trans (Ex.new (g4.freeS hq2))
  generalize upd (upd S3 q1 (.lst (us.drop 1))) q2 (.lst (us.take 1)) = S4 at g6 m1 m2 e6
  have k6 := g6.i _ _ (e6 _ _ k1)
  have k7 : upd (upd (upd H2 q1 (.lst (us.drop 1))) q2 (.lst (us.take 1))) q3 (.lst [.ref q1, .ref q2]) q3 = some (.lst [.ref q1, .ref q2]) := upd_same
  refine ⟨D1, q3, _, _, rfl, rfl, k6, k7, small5 (by simp only [List.length_cons, List.length_nil]; omega), fun q4 hq4 => ?_⟩
  have g7 := g6.put (o := .lst (acc1 ++ [.ref q1, .ref q2])) hq4
  have f4 := g6.freeS hq4
  have m4 : upd S4 q4 (.lst (acc1 ++ [.ref q1, .ref q2])) q4 = some (.lst (acc1 ++ [.ref q1, .ref q2])) := upd_same
  have eS4 : Ex S (upd S4 q4 (.lst (acc1 ++ [.ref q1, .ref q2]))) := ((g2.s.trans eD).trans e6).trans (Ex.new f4)
  have hU4 : AtA (upd S4 q4 (.lst (acc1 ++ [.ref q1, .ref q2]))) us (h.map ePr) := hU.mono eS4
  have a4 : AtA (upd S4 q4 (.lst (acc1 ++ [.ref q1, .ref q2]))) (acc1 ++ [.ref q1, .ref q2]) ((hs.take j ++ [h.drop 1, h.take 1]).map ePrs) := by
    rw [List.map_append]
    refine (a1.mono ((eD.trans e6).trans (Ex.new f4))).app (.cons (.lst (upd_get m1 f4) ?_) (.cons (.lst (upd_get m2 f4) ?_) .nil))
    · rw [List.map_drop]; exact hU4.drop 1
    · rw [List.map_take]; exact hU4.take 1
  generalize upd S4 q4 (.lst (acc1 ++ [.ref q1, .ref q2])) = S5 at g7 m4 eS4 a4
  generalize upd (upd (upd (upd H2 q1 (.lst (us.drop 1))) q2 (.lst (us.take 1))) q3 (.lst [.ref q1, .ref q2])) q4 (.lst (acc1 ++ [.ref q1, .ref q2])) = H5 at g7
  have hn5 : (hs.drop (j + 1)).length ≤ 2304 := by rw [List.length_drop]; omega
  have eH5 := eS4.trans g7.i
  refine c_copyS (K := K) (S := S5) (vs := vs.drop (j + 1)) (hs := hs.drop (j + 1)) (show 4 < 5 by decide) (fun R h => ⟨_, rfl, (val_I0 (md _ _ rfl rfl eH5) val_c) _ ⟨_, rfl, p, vs, rfl, SqL.of (eH5 _ _ hp), fun q hq => ⟨q, rfl, ⟨_, SqL.of upd_same⟩, by
    have e9 : cutV vs (some ((j : Int) + 1)) none = vs.drop (j + 1) := cut_from vs (j + 1)
    rw [e9]; exact h q hq⟩⟩⟩) (by rw [List.map_drop]; exact (hA.mono eS4).drop (j + 1)) g7.i (by omega) (fun S6 H6 D2 acc2 g8 sD2 hD2 eD2 a8 => ?_)
  have hl2 := a8.lenM
  refine ⟨q4, D2, _, _, rfl, rfl, g8.i _ _ (g8.s _ _ m4), eD2, small5 (by simp only [List.length_append, List.length_cons, List.length_nil]; omega), fun r hr => ?_⟩
  refine k _ _ r _ ((g7.trans g8).put hr) (.lst upd_same ?_) ok2 ?_
  · rw [List.map_append]
    exact ((a4.mono g8.s).app a8).mono (Ex.new ((g7.trans g8).freeS hr))
  · have := congrArg List.length hsplit
    simp only [List.length_append, List.length_cons, List.length_nil] at this ⊢
    omega
theorem ok_law_part_one (T : Txt w K mg) : Df P w K mg base 1 (He.ga K "_law_part_one") ["_law_heaps_here", "_law_at"] (sp_law_part_one K) :=
  df_of T.f_law_part_one sc_law_part_one (fun _ _ _ _ _ _ us hl => match us, hl with | [_, _], _ => rfl) (fun vs H Q E h => by
    obtain ⟨S, a, b, v, hs, n, rfl, _⟩ := h
    rfl) (fun cdv A outer s H E hr => w_law_part_one T cdv A outer s H E hr) (fun vs H Q E h => r_law_part_one T vs H Q E h)
end
end Pk
namespace Pk
open PySem PySem.Spec
open PyProof.Rows L2
/-! ## cost_table -/
theorem sc_cost_table : FnScope ["side", "top", "table", "sign", "above", "row", "at", "other"] ["side", "top"] (defScope s_cost_table) := ⟨rfl, rfl, rfl, by decide +kernel, rfl, by decide +kernel, by decide +kernel⟩
def sp_cost_table (K : PySem.W.Frag) : Sp := fun vs H Q _ => ∃ (S : Hp) (a b : List Nat), vs = [.str (tx a), .str (tx b)] ∧ Ex S H ∧ a.length ≤ 1000 ∧ b.length ≤ 1000 ∧ ∀ S' H' v', Gw S H S' H' → At S' v' (eILL (tabI (ed a b) (a.length + 1) (b.length + 1))) → Q v' H'
def t_cost_table (K : PySem.W.Frag) : TS := (tSeq (tAsg (tLst (tCons (tLstRg (tRg1 (tOp oAdd (tCB cLenS (tCons (tVar 1) tNil)) (tC (.int 1))))) tNil)) (gName 2))
  (tSeq (tFor (iStr (tVar 0)) (gName 3) (tSeq (tAsg (tOp (rIxL K) (tVar 2) (tUn oNeg (tC (.int 1)))) (gName 4))
  (tSeq (tAsg (tLst (tCons (tOp oAdd (tOp (rIxL K) (tVar 4) (tC (.int 0))) (tC (.int 1))) tNil)) (gName 5))
  (tSeq (tFor (iEnumS (tCons (tVar 1) tNil)) (gTup K 2 (gCons (gName 6) (gCons (gName 7) gNil))) (tDrop (tBM K "list" rAppend (tVar 5) (tCons (tCB rMin3 (tCons (tOp oAdd (tOp (rIxL K) (tVar 4) (tVar 6)) (tCB cInt1 (tCons (tOp rNe (tVar 3) (tVar 7)) tNil))) (tCons (tOp oAdd (tOp (rIxL K) (tVar 4) (tOp oAdd (tVar 6) (tC (.int 1)))) (tC (.int 1))) (tCons (tOp oAdd (tOp (rIxL K) (tVar 5) (tVar 6)) (tC (.int 1))) tNil)))) tNil))))
  (tDrop (tBM K "list" rAppend (tVar 2) (tCons (tVar 5) tNil)))))))
  (tRet (tVar 2))))
section
variable {P : Program} {w : World} {K : PySem.W.Frag} {mg : Str → Option Value} {base : Heap}
theorem w_cost_table (T : Txt w K mg) (cdv : Value) (A : Around) (outer : List Env) (s : Shared) (H : Hp) (E : XK) (hr : Room 0 (A.deeper (envOfC "cost_table" (defScope s_cost_table) s.heap.objs.size (He.ga K "cost_table") cdv))) :
    PSs (cxOf CX0 P w K mg base ["side", "top", "table", "sign", "above", "row", "at", "other"] "cost_table" (defScope s_cost_table) (He.ga K "cost_table") cdv A outer s H E).nox (defBody s_cost_table) (t_cost_table K) := by
  exact (pss_cons (ps_set (i := 2) sc_cost_table.nd rfl (Or.inl rfl) (pe_lst (pa_cons (pe_listRg rfl (by exact rfl) T.n_list (prg_1 (by exact rfl) T.n_range (pe_op op_add (pe_callB cl_lenS (by exact rfl) T.n_len PySem.boot_len (pa_cons (pv 1) pa_nil)) pe_int))) pa_nil)))
  (pss_cons (ps_for PassesOwn.never rfl (pi_str (pv 0)) (pg_name (i := 3) sc_cost_table.nd rfl (Or.inl rfl)) (pss_cons (ps_set (i := 4) sc_cost_table.nd rfl (Or.inl rfl) (pe_ix ix_list (pv 2) (pe_un un_neg pe_int) (fun _ _ => rfl)))
  (pss_cons (ps_set (i := 5) sc_cost_table.nd rfl (Or.inl rfl) (pe_lst (pa_cons (pe_op op_add (pe_ix ix_list (pv 4) pe_int (fun _ _ => rfl)) pe_int) pa_nil)))
  (pss_cons (ps_for PassesOwn.never rfl (pi_enumS (by exact rfl) T.n_enumerate (pa_cons (pv 1) pa_nil)) (pg_tup rfl (pgs_cons (pg_name (i := 6) sc_cost_table.nd rfl (Or.inl rfl)) (pgs_cons (pg_name (i := 7) sc_cost_table.nd rfl (Or.inl rfl)) pgs_nil))) (pss_one (ps_expr (pe_bm PySem.F.plainAttrs_list PySem.F.slot_list_append PySem.F.type_list_append mt_append (pv 5) (pa_cons (pe_callB (cl_min3 rfl) (by exact rfl) T.n_min (by decide +kernel) (pa_cons (pe_op op_add (pe_ix ix_list (pv 4) (pv 6) (fun _ _ => rfl)) (pe_callTy cl_int1 (by exact rfl) T.n_int (by decide +kernel) (pa_cons (pe_cmpR op_ne (pv 3) (pv 7) (nomark _)) pa_nil))) (pa_cons (pe_op op_add (pe_ix ix_list (pv 4) (pe_op op_add (pv 6) pe_int) (fun _ _ => rfl)) pe_int) (pa_cons (pe_op op_add (pe_ix ix_list (pv 5) (pv 6) (fun _ _ => rfl)) pe_int) pa_nil)))) pa_nil)))))
  (pss_one (ps_expr (pe_bm PySem.F.plainAttrs_list PySem.F.slot_list_append PySem.F.type_list_append mt_append (pv 2) (pa_cons (pv 5) pa_nil))))))))
  (pss_one (ps_ret (pv 2)))))
theorem r_cost_table (T : Txt w K mg) (vs : List V) (H : Hp) (Q : VK) (E : XK) (h : sp_cost_table K vs H Q E) : t_cost_table K { nx := fun _ H' => Q .non H', rt := Q } (start ["side", "top", "table", "sign", "above", "row", "at", "other"] vs) H := by
  obtain ⟨S, a, b, rfl, eS, ha, hb, k⟩ := h
  refine x_setC (val_I0 (val_lenS (val_var rfl) (by omega)) val_c _ ⟨_, rfl, RgOk.of_le (by omega) (by omega) (by omega) (by omega), fun r hr => ⟨by show 1 ≤ sizeLine; decide, fun l hl => ?_⟩⟩)
  have e0 : rgV 0 ((b.length : Int) + 1) = rowV (ed a b 0) (b.length + 1) := by
    rw [show (b.length : Int) + 1 = ((b.length + 1 : Nat) : Int) by omega, range_rgV]
    exact rowV_ext fun i _ => (ed_0 a b i).symm
  rw [e0] at hl ⊢
  have g0 := (Gw.refl eS).put (o := .lst (rowV (ed a b 0) (b.length + 1))) hr
  refine x_forS (val_var rfl) (fun n σ' H' => ∃ (S' : Hp) (vs : List V) (z3 z4 z5 z6 z7 : Option V), σ' = [some (.str (tx a)), some (.str (tx b)), some (.ref l), z3, z4, z5, z6, z7] ∧ Gw S H S' H' ∧ S' l = none ∧ H' l = some (.lst vs) ∧ AtA S' vs ((tabI (ed a b) (n + 1) (b.length + 1)).map eIL)) ⟨_, [.ref r], none, none, none, none, none, rfl, g0.mut hl, g0.freeS hl, upd_same, .cons (At.row upd_same) .nil⟩ ?_ ?_
  · rintro n c σ' H' hc ⟨S1, vs, z3, z4, z5, z6, z7, rfl, g, sl, hw, hA⟩
    have hH0 : H l = none := g0.free hl
    have hn := hA.lenM
    rw [tabI_len] at hn
    have hna : n < a.length := (List.getElem?_eq_some_iff.mp hc).1
    obtain ⟨v, hv, hat⟩ := hA.getF (tabI_get (ed a b) (n := b.length + 1) (Nat.lt_succ_self n))
    obtain ⟨pa, rfl, hpa⟩ := hat.row_
    have hpa' := g.i _ _ hpa
    refine x_set (val_ixL (val_var rfl) (val_neg val_c) hw (at_neg1 (by rw [hn]; exact hv))) ?_
    have h0 : Val (tOp oAdd (tOp (rIxL K) (tVar 4) (tC (.int 0))) (tC (.int 1))) [some (.str (tx a)), some (.str (tx b)), some (.ref l), some (.str (tx [c])), some (.ref pa), z5, z6, z7] H' (.int (ed a b (n + 1) 0 : Nat)) := by
      refine val_is (val_I0 (val_ixL (val_var rfl) val_c hpa' (rowV_at _ (i := 0) rfl (by omega))) val_c) ?_
      rw [ed_s0, ed_s0]; congr 1
    refine x_setC (c_lst (va_1 h0) (by simp) fun q hq => ?_)
    have sq := g.freeS hq
    have hql : q ≠ l := fun e => by rw [e, hw] at hq; cases hq
    refine x_forES (val_var rfl) (fun j σ' H' => ∃ (z6 z7 : Option V), σ' = [some (.str (tx a)), some (.str (tx b)), some (.ref l), some (.str (tx [c])), some (.ref pa), some (.ref q), z6, z7] ∧ Gw S H S1 H' ∧ H' l = some (.lst vs) ∧ H' q = some (.lst (rowV (ed a b (n + 1)) (j + 1)))) ⟨z6, z7, rfl, g.mut hq, by rw [upd_ne hql.symm]; exact hw, upd_same⟩ ?_ ?_
    · rintro j d σ' H2 T hd ⟨y6, y7, rfl, g2, hw2, hq2⟩ hT
      have hjb : j < b.length := (List.getElem?_eq_some_iff.mp hd).1
      have g3 := g2.mut (o := .tup [.int (j : Nat), .str (tx [d])]) hT
      have hpa3 := g3.i _ _ hpa
      have hq3 := upd_get (o := .tup [.int (j : Nat), .str (tx [d])]) hq2 hT
      have hw3 := upd_get (o := .tup [.int (j : Nat), .str (tx [d])]) hw2 hT
      refine y_app (v := .int (ed a b (n + 1) (j + 1) : Nat)) (val_var rfl) (val_is (val_min3 (a := (((ed a b n j + if a[n]? = b[j]? then 0 else 1 : Nat)) : Int)) (b := ((ed a b n (j + 1) + 1 : Nat) : Int)) (c := ((ed a b (n + 1) j + 1 : Nat) : Int)) ?_ ?_ ?_) ?_) hq3 (by rw [rowV_len]; omega) ?_
      · refine val_is (val_I0 (val_ixL (val_var rfl) (val_var rfl) hpa3 (rowV_at _ rfl (by omega))) (val_intB (val_ne (val_var rfl) (val_var rfl) rfl))) ?_
        rw [tx_dec, hc, hd]
        by_cases e : c = d
        · subst e; simp
        · simp [e]
      · refine val_is (val_I0 (val_ixL (val_var rfl) (val_I0 (val_var rfl) val_c) hpa3 (rowV_at _ (i := j + 1) (by omega) (by omega))) val_c) ?_
        congr 1
      · refine val_is (val_I0 (val_ixL (val_var rfl) (val_var rfl) hq3 (rowV_at _ rfl (by omega))) val_c) ?_
        congr 1
      · rw [mn3_nat, ed_ss]
      · have sq3 := hq3
        refine ⟨_, _, rfl, g3.set (g.free hq) sq, by rw [upd_ne hql.symm]; exact hw3, by rw [upd_same, rowV_succ (ed a b (n + 1)) (j + 1)]⟩
    · rintro σ' H2 ⟨y6, y7, rfl, g2, hw2, hq2⟩
      have g3 := g2.frz (g.free hq) sq hq2
      have sl3 : upd S1 q (.lst (rowV (ed a b (n + 1)) (b.length + 1))) l = none := by rw [upd_ne hql.symm]; exact sl
      refine y_app (val_var rfl) (val_var rfl) hw2 (by omega) ?_
      refine ⟨_, vs ++ [.ref q], _, _, _, _, _, rfl, g3.set hH0 sl3, sl3, upd_same, ?_⟩
      rw [tabI_succ (ed a b) (n + 1)]
      exact (hA.mono (Ex.new sq)).snocM (At.row upd_same)
  · rintro σ' H' ⟨S1, vs, z3, z4, z5, z6, z7, rfl, g, sl, hw, hA⟩
    refine x_ret (val_var rfl) (k _ _ _ (g.frz (g0.free hl) sl hw) ?_)
    exact .lst upd_same (hA.mono (Ex.new sl))
theorem ok_cost_table (T : Txt w K mg) : Df P w K mg base 1 (He.ga K "cost_table") ["side", "top"] (sp_cost_table K) :=
  df_of T.f_cost_table sc_cost_table (fun _ _ _ _ _ _ us hl => match us, hl with | [_, _], _ => rfl) (fun vs H Q E h => by
    obtain ⟨S, a, b, rfl, _⟩ := h
    rfl) (fun cdv A outer s H E hr => w_cost_table T cdv A outer s H E hr) (fun vs H Q E h => r_cost_table T vs H Q E h)
end
end Pk
namespace Pk
open PySem PySem.Spec
open PyProof.Rows L2
/-! ## come_to -/
theorem sc_come_to : FnScope ["old", "new"] ["old", "new"] (defScope s_come_to) := ⟨rfl, rfl, rfl, by decide +kernel, rfl, by decide +kernel, by decide +kernel⟩
def sp_come_to (K : PySem.W.Frag) : Sp := fun vs H Q _ => ∃ (S : Hp) (a b : List Nat), vs = [.str (tx a), .str (tx b)] ∧ Ex S H ∧ a.length ≤ 1 ∧ b.length ≤ 1 ∧ ∀ S' H' v', Gw S H S' H' → At S' v' (eChs (comb a b)) → Q v' H'
def t_come_to (K : PySem.W.Frag) : TS := (tSeq (tIfS (tTest (tOp rEq (tVar 0) (tVar 1))) (tRet (tOp rRep (tLst (tCons (tTup (tCons (tC (.str "keep")) (tCons (tVar 0) tNil))) tNil)) (tCB cLenS (tCons (tVar 0) tNil)))) tNext)
  (tSeq (tIfS (tTest (tOp rEq (tVar 0) (tC (.str "")))) (tRet (tLst (tCons (tTup (tCons (tC (.str "in")) (tCons (tVar 1) tNil))) tNil))) tNext)
  (tSeq (tIfS (tTest (tOp rEq (tVar 1) (tC (.str "")))) (tRet (tLst (tCons (tTup (tCons (tC (.str "out")) (tCons (tVar 0) tNil))) tNil))) tNext)
  (tRet (tLst (tCons (tTup (tCons (tC (.str "change")) (tCons (tVar 0) (tCons (tVar 1) tNil)))) tNil))))))
section
variable {P : Program} {w : World} {K : PySem.W.Frag} {mg : Str → Option Value} {base : Heap}
theorem w_come_to (T : Txt w K mg) (cdv : Value) (A : Around) (outer : List Env) (s : Shared) (H : Hp) (E : XK) (hr : Room 0 (A.deeper (envOfC "come_to" (defScope s_come_to) s.heap.objs.size (He.ga K "come_to") cdv))) :
    PSs (cxOf CX0 P w K mg base ["old", "new"] "come_to" (defScope s_come_to) (He.ga K "come_to") cdv A outer s H E).nox (defBody s_come_to) (t_come_to K) := by
  exact (pss_cons (ps_if (pt_cmpR op_eq (pv 0) (pv 1) (nomark _)) (pss_one (ps_ret (pe_op op_rep (pe_lst (pa_cons (pe_tup (pa_cons pe_str (pa_cons (pv 0) pa_nil))) pa_nil)) (pe_callB cl_lenS (by exact rfl) T.n_len PySem.boot_len (pa_cons (pv 0) pa_nil))))) pss_nil)
  (pss_cons (ps_if (pt_cmpR op_eq (pv 0) pe_str (nomark _)) (pss_one (ps_ret (pe_lst (pa_cons (pe_tup (pa_cons pe_str (pa_cons (pv 1) pa_nil))) pa_nil)))) pss_nil)
  (pss_cons (ps_if (pt_cmpR op_eq (pv 1) pe_str (nomark _)) (pss_one (ps_ret (pe_lst (pa_cons (pe_tup (pa_cons pe_str (pa_cons (pv 0) pa_nil))) pa_nil)))) pss_nil)
  (pss_one (ps_ret (pe_lst (pa_cons (pe_tup (pa_cons pe_str (pa_cons (pv 0) (pa_cons (pv 1) pa_nil)))) pa_nil)))))))
theorem r_come_to (T : Txt w K mg) (vs : List V) (H : Hp) (Q : VK) (E : XK) (h : sp_come_to K vs H Q E) : t_come_to K { nx := fun _ H' => Q .non H', rt := Q } (start ["old", "new"] vs) H := by
  obtain ⟨S, a, b, rfl, eS, ha, hb, k⟩ := h
  have h1 : a = [] ∨ ∃ x, a = [x] := by
    cases a with
    | nil => exact .inl rfl
    | cons x r => cases r with
      | nil => exact .inr ⟨x, rfl⟩
      | cons y z => simp at ha
  have h2 : b = [] ∨ ∃ x, b = [x] := by
    cases b with
    | nil => exact .inl rfl
    | cons x r => cases r with
      | nil => exact .inr ⟨x, rfl⟩
      | cons y z => simp at hb
  have one : ∀ (c : Ch), (comb a b = [c]) → ∀ p q, H p = none → upd H p (.tup (vCh c)) q = none → Q (.ref q) (upd (upd H p (.tup (vCh c))) q (.lst [.ref p])) := fun c ec p q hp hq => by
    have g1 := (Gw.refl eS).put (o := .tup (vCh c)) hp
    have g2 := g1.put (o := .lst [.ref p]) hq
    refine k _ _ _ g2 ?_
    rw [ec]
    exact .lst upd_same (.cons (At.ch (upd_get upd_same (g1.freeS hq))) .nil)
  by_cases e : a = b
  · subst e
    refine x_when (b := true) (Ans.to (ans_te (val_eq (val_var rfl) (val_var rfl) rfl)) (decide_eq_true rfl)) (fun _ => x_retC ?_) (fun z => by cases z)
    refine ⟨_, rfl, by show 2 ≤ sizeLine; decide, fun p hp => ⟨by show 1 ≤ sizeLine; decide, fun q hq => ⟨_, rfl, tx a, rfl, by rw [tx_len]; exact small5 (by omega), q, (tx a).length, [.ref p], rfl, rfl, upd_same, by omega, ?_, ?_, fun r hr => ?_⟩⟩⟩
    · rw [tx_len]; omega
    · rw [tx_len]; simp only [List.length_cons, List.length_nil, Int.toNat_natCast]; exact small5 (by omega)
    · rw [Int.toNat_natCast, tx_len]
      rcases h1 with rfl | ⟨x, rfl⟩
      · refine k _ _ _ (((Gw.refl eS).any ((Ex.new hp).trans (Ex.new hq))).put hr) ?_
        exact .lst upd_same .nil
      · have g1 := (Gw.refl eS).put (o := .tup [.str "keep", .str (tx [x])]) hp
        have g2 := (g1.any (Ex.new hq)).put (o := .lst (List.replicate ([x] : List Nat).length [V.ref p]).flatten) hr
        refine k _ _ _ g2 ?_
        have ec : comb [x] [x] = [Ch.kp x] := if_pos rfl
        rw [ec]
        exact .lst upd_same (.cons (At.ch (c := .kp x) (upd_get upd_same ((g1.any (Ex.new hq)).freeS hr))) .nil)
  · refine x_when (b := false) (Ans.to (ans_te (val_eq (val_var rfl) (val_var rfl) rfl)) ?_) (fun z => by cases z) (fun _ => ?_)
    · rw [tx_dec]; exact decide_eq_false e
    rcases h1 with rfl | ⟨x, rfl⟩
    · rcases h2 with rfl | ⟨y, rfl⟩
      · exact absurd rfl e
      · refine x_when (b := true) (Ans.to (ans_te (val_eq (val_var rfl) val_emp rfl)) (decide_eq_true rfl)) (fun _ => x_retC ?_) (fun z => by cases z)
        exact ⟨_, rfl, by show 2 ≤ sizeLine; decide, fun p hp => ⟨by show 1 ≤ sizeLine; decide, fun q hq => one (.im y) rfl p q hp hq⟩⟩
    · refine x_when (b := false) (Ans.to (ans_te (val_eq (val_var rfl) val_emp rfl)) ?_) (fun z => by cases z) (fun _ => ?_)
      · rw [tx_dec]; exact decide_eq_false (by simp)
      rcases h2 with rfl | ⟨y, rfl⟩
      · refine x_when (b := true) (Ans.to (ans_te (val_eq (val_var rfl) val_emp rfl)) (decide_eq_true rfl)) (fun _ => x_retC ?_) (fun z => by cases z)
        exact ⟨_, rfl, by show 2 ≤ sizeLine; decide, fun p hp => ⟨by show 1 ≤ sizeLine; decide, fun q hq => one (.ou x) rfl p q hp hq⟩⟩
      · refine x_when (b := false) (Ans.to (ans_te (val_eq (val_var rfl) val_emp rfl)) ?_) (fun z => by cases z) (fun _ => x_retC ?_)
        · rw [tx_dec]; exact decide_eq_false (by simp)
        have ec : comb [x] [y] = [Ch.cg x y] := if_neg (fun q => e (by rw [q]))
        exact ⟨_, rfl, _, rfl, by show 3 ≤ sizeLine; decide, fun p hp => ⟨by show 1 ≤ sizeLine; decide, fun q hq => one (.cg x y) ec p q hp hq⟩⟩
theorem ok_come_to (T : Txt w K mg) : Df P w K mg base 1 (He.ga K "come_to") ["old", "new"] (sp_come_to K) :=
  df_of T.f_come_to sc_come_to (fun _ _ _ _ _ _ us hl => match us, hl with | [_, _], _ => rfl) (fun vs H Q E h => by
    obtain ⟨S, a, b, rfl, _⟩ := h
    rfl) (fun cdv A outer s H E hr => w_come_to T cdv A outer s H E hr) (fun vs H Q E h => r_come_to T vs H Q E h)
end
end Pk
namespace Pk
open PySem PySem.Spec
open PyProof.Rows L2
/-! ## changes_of -/
theorem sc_changes_of : FnScope ["side", "top", "table", "i", "j", "found"] ["side", "top"] (defScope s_changes_of) := ⟨rfl, rfl, rfl, by decide +kernel, rfl, by decide +kernel, by decide +kernel⟩
def sp_changes_of (K : PySem.W.Frag) : Sp := fun vs H Q _ => ∃ (S : Hp) (a b : List Nat), vs = [.str (tx a), .str (tx b)] ∧ Ex S H ∧ Plain a ∧ Plain b ∧ ∀ S' H' v', Gw S H S' H' → At S' v' (eChs (chg a b)) → Q v' H'
def t_changes_of (K : PySem.W.Frag) : TS := (tSeq (tDrop (tCall (sp_need_plains K) [] E0 (tCons (tVar 0) (tCons (tVar 1) tNil))))
  (tSeq (tAsg (tCall (sp_cost_table K) [] E0 (tCons (tVar 0) (tCons (tVar 1) tNil))) (gName 2))
  (tSeq (tAsg (tCB cLenS (tCons (tVar 0) tNil)) (gName 3))
  (tSeq (tAsg (tCB cLenS (tCons (tVar 1) tNil)) (gName 4))
  (tSeq (tAsg (tLst tNil) (gName 5))
  (tSeq (tWhile (tOr (tTest (tOp oGt (tVar 3) (tC (.int 0)))) (tTest (tOp oGt (tVar 4) (tC (.int 0))))) (tIfS (tAnd (tTest (tOp oGt (tVar 3) (tC (.int 0)))) (tTest (tOp rEq (tOp (rIxL K) (tOp (rIxL K) (tVar 2) (tVar 3)) (tVar 4)) (tOp oAdd (tOp (rIxL K) (tOp (rIxL K) (tVar 2) (tOp oSub (tVar 3) (tC (.int 1)))) (tVar 4)) (tC (.int 1)))))) (tSeq (tAug 3 (tC (.int 1)) (ipI fun i j => i - j))
  (tDrop (tBM K "list" rAppend (tVar 5) (tCons (tTup (tCons (tC (.str "out")) (tCons (tOp rIxS (tVar 0) (tVar 3)) tNil))) tNil)))) (tIfS (tAnd (tTest (tOp oGt (tVar 4) (tC (.int 0)))) (tTest (tOp rEq (tOp (rIxL K) (tOp (rIxL K) (tVar 2) (tVar 3)) (tVar 4)) (tOp oAdd (tOp (rIxL K) (tOp (rIxL K) (tVar 2) (tVar 3)) (tOp oSub (tVar 4) (tC (.int 1)))) (tC (.int 1)))))) (tSeq (tAug 4 (tC (.int 1)) (ipI fun i j => i - j))
  (tDrop (tBM K "list" rAppend (tVar 5) (tCons (tTup (tCons (tC (.str "in")) (tCons (tOp rIxS (tVar 1) (tVar 4)) tNil))) tNil)))) (tSeq (tAug 3 (tC (.int 1)) (ipI fun i j => i - j))
  (tSeq (tAug 4 (tC (.int 1)) (ipI fun i j => i - j))
  (tDrop (tBM K "list" rExtend (tVar 5) (tCons (tCall (sp_come_to K) [] E0 (tCons (tOp rIxS (tVar 0) (tVar 3)) (tCons (tOp rIxS (tVar 1) (tVar 4)) tNil))) tNil))))))))
  (tRet (tRevL K (tVar 5)))))))))
section
variable {P : Program} {w : World} {K : PySem.W.Frag} {mg : Str → Option Value} {base : Heap}
theorem w_changes_of (T : Txt w K mg) (cdv : Value) (A : Around) (outer : List Env) (s : Shared) (H : Hp) (E : XK) (hr : Room 4 (A.deeper (envOfC "changes_of" (defScope s_changes_of) s.heap.objs.size (He.ga K "changes_of") cdv))) :
    PSs (cxOf CX0 P w K mg base ["side", "top", "table", "i", "j", "found"] "changes_of" (defScope s_changes_of) (He.ga K "changes_of") cdv A outer s H E).nox (defBody s_changes_of) (t_changes_of K) := by
  obtain ⟨⟨fd_need_plains, F_need_plains, b_need_plains⟩, k_need_plains⟩ := ok_need_plains (P := P) (base := base) T
  obtain ⟨⟨fd_cost_table, F_cost_table, b_cost_table⟩, k_cost_table⟩ := ok_cost_table (P := P) (base := base) T
  obtain ⟨⟨fd_come_to, F_come_to, b_come_to⟩, k_come_to⟩ := ok_come_to (P := P) (base := base) T
  exact (pss_cons (ps_expr (pe_call F_need_plains (hr.mono (by decide)) (by exact rfl) T.g_need_plains k_need_plains b_need_plains .nil pass0 (pa_cons (pv 0) (pa_cons (pv 1) pa_nil))))
  (pss_cons (ps_set (i := 2) sc_changes_of.nd rfl (Or.inl rfl) (pe_call F_cost_table (hr.mono (by decide)) (by exact rfl) T.g_cost_table k_cost_table b_cost_table .nil pass0 (pa_cons (pv 0) (pa_cons (pv 1) pa_nil))))
  (pss_cons (ps_set (i := 3) sc_changes_of.nd rfl (Or.inl rfl) (pe_callB cl_lenS (by exact rfl) T.n_len PySem.boot_len (pa_cons (pv 0) pa_nil)))
  (pss_cons (ps_set (i := 4) sc_changes_of.nd rfl (Or.inl rfl) (pe_callB cl_lenS (by exact rfl) T.n_len PySem.boot_len (pa_cons (pv 1) pa_nil)))
  (pss_cons (ps_set (i := 5) sc_changes_of.nd rfl (Or.inl rfl) (pe_lst pa_nil))
  (pss_cons (ps_while PassesOwn.never (PW.pt (pw_or (pt_cmpR op_gt (pv 3) pe_int (nomark _)) (pw_or1 (pt_cmpR op_gt (pv 4) pe_int (nomark _))))) (pss_one (ps_if (PW.pt (pw_and (pt_cmpR op_gt (pv 3) pe_int (nomark _)) (pw_and1 (pt_cmpR op_eq (pe_ix ix_list (pe_ix ix_list (pv 2) (pv 3) (fun _ _ => rfl)) (pv 4) (fun _ _ => rfl)) (pe_op op_add (pe_ix ix_list (pe_ix ix_list (pv 2) (pe_op op_sub (pv 3) pe_int) (fun _ _ => rfl)) (pv 4) (fun _ _ => rfl)) pe_int) (nomark _))))) (pss_cons (ps_aug (i := 3) sc_changes_of.nd rfl (Or.inl rfl) pe_int ip_sub)
  (pss_one (ps_expr (pe_bm PySem.F.plainAttrs_list PySem.F.slot_list_append PySem.F.type_list_append mt_append (pv 5) (pa_cons (pe_tup (pa_cons pe_str (pa_cons (pe_ix ix_str (pv 0) (pv 3) (fun _ _ => rfl)) pa_nil))) pa_nil))))) (pss_one (ps_if (PW.pt (pw_and (pt_cmpR op_gt (pv 4) pe_int (nomark _)) (pw_and1 (pt_cmpR op_eq (pe_ix ix_list (pe_ix ix_list (pv 2) (pv 3) (fun _ _ => rfl)) (pv 4) (fun _ _ => rfl)) (pe_op op_add (pe_ix ix_list (pe_ix ix_list (pv 2) (pv 3) (fun _ _ => rfl)) (pe_op op_sub (pv 4) pe_int) (fun _ _ => rfl)) pe_int) (nomark _))))) (pss_cons (ps_aug (i := 4) sc_changes_of.nd rfl (Or.inl rfl) pe_int ip_sub)
  (pss_one (ps_expr (pe_bm PySem.F.plainAttrs_list PySem.F.slot_list_append PySem.F.type_list_append mt_append (pv 5) (pa_cons (pe_tup (pa_cons pe_str (pa_cons (pe_ix ix_str (pv 1) (pv 4) (fun _ _ => rfl)) pa_nil))) pa_nil))))) (pss_cons (ps_aug (i := 3) sc_changes_of.nd rfl (Or.inl rfl) pe_int ip_sub)
  (pss_cons (ps_aug (i := 4) sc_changes_of.nd rfl (Or.inl rfl) pe_int ip_sub)
  (pss_one (ps_expr (pe_bm PySem.F.plainAttrs_list PySem.F.slot_list_extend PySem.F.type_list_extend mt_extend (pv 5) (pa_cons (pe_call F_come_to (hr.mono (by decide)) (by exact rfl) T.g_come_to k_come_to b_come_to .nil pass0 (pa_cons (pe_ix ix_str (pv 0) (pv 3) (fun _ _ => rfl)) (pa_cons (pe_ix ix_str (pv 1) (pv 4) (fun _ _ => rfl)) pa_nil))) pa_nil)))))))))))
  (pss_one (ps_ret (pe_revL (pv 5))))))))))
theorem r_changes_of (T : Txt w K mg) (vs : List V) (H : Hp) (Q : VK) (E : XK) (h : sp_changes_of K vs H Q E) : t_changes_of K { nx := fun _ H' => Q .non H', rt := Q } (start ["side", "top", "table", "i", "j", "found"] vs) H := by
  obtain ⟨S, a, b, rfl, eS, hpa, hpb, k⟩ := h
  have za := hpa.1
  have zb := hpb.1
  refine x_dropC (c_call (va_2 (val_var rfl) (val_var rfl)) ⟨a, b, rfl, hpa, hpb, fun H1 e1 => ?_⟩)
  refine x_setC (c_call (va_2 (val_var rfl) (val_var rfl)) ⟨S, a, b, rfl, eS.trans e1, by omega, by omega, fun S2 H2 v2 g2 hv2 => ?_⟩)
  have gH : Gw S H S2 H2 := ((Gw.refl eS).any e1).trans g2
  obtain ⟨t, vs, rfl, ht, hT⟩ := hv2.lst_
  refine x_set (val_lenS (val_var rfl) (by omega)) (x_set (val_lenS (val_var rfl) (by omega)) ?_)
  refine x_setC (c_lst va_nil (by simp) fun l hl => ?_)
  have hl0 := gH.free hl
  have cell : ∀ i j, i ≤ a.length → j ≤ b.length → ∀ (H' : Hp), Ex S2 H' → ∀ (te1 te2 : TE) (σ : L2.St), Val te1 σ H' (.int (i : Int)) → Val te2 σ H' (.int (j : Int)) → σ[2]? = some (some (.ref t)) → Val (tOp (rIxL K) (tOp (rIxL K) (tVar 2) te1) te2) σ H' (.int (ed a b i j : Nat)) := fun i j hi hj H' e te1 te2 σ v1 v2 hσ => by
    obtain ⟨v, hv, hat⟩ := hT.getF (tabI_get (ed a b) (n := b.length + 1) (show i < a.length + 1 by omega))
    obtain ⟨pa, rfl, hpa⟩ := hat.row_
    exact val_ixL (val_ixL (val_var hσ) v1 (e _ _ ht) (at_nat rfl hv)) v2 (e _ _ hpa) (rowV_at _ rfl (by omega))
  have okc := (trb_all a b hpa.2 hpb.2 a.length b.length (Nat.le_refl _) (Nat.le_refl _)).2.2.2
  have lenc : (trb a b a.length b.length).length ≤ 48 := by
    have := (chg_all hpa hpb).2.2.2.1
    unfold chg at this
    rwa [List.length_reverse] at this
  refine x_while (fun m σ' H' => ∃ (S' : Hp) (ws : List V) (acc : List Ch) (i j : Nat), σ' = [some (.str (tx a)), some (.str (tx b)), some (.ref t), some (.int (i : Int)), some (.int (j : Int)), some (.ref l)] ∧ Gw S H S' H' ∧ Ex S2 S' ∧ S' l = none ∧ H' l = some (.lst ws) ∧ AtA S' ws (acc.map eCh) ∧ acc ++ trb a b i j = trb a b a.length b.length ∧ i ≤ a.length ∧ j ≤ b.length ∧ m = i + j) (a.length + b.length) ⟨S2, [], [], a.length, b.length, rfl, gH.mut hl, Ex.refl _, gH.freeS hl, upd_same, .nil, rfl, Nat.le_refl _, Nat.le_refl _, rfl⟩ ?_
  rintro m σ' H' ⟨S', ws, acc, i, j, rfl, g, e2, sl, hw, hA, hacc, hi, hj, rfl⟩
  have hlen := hA.lenM
  have hle : acc.length + (trb a b i j).length ≤ 48 := by
    rw [← List.length_append, hacc]; exact lenc
  have gt1 : Ans (tTest (tOp oGt (tVar 3) (tC (.int 0)))) [some (.str (tx a)), some (.str (tx b)), some (.ref t), some (.int (i : Int)), some (.int (j : Int)), some (.ref l)] H' (decide (0 < i)) := Ans.to (ans_te (val_I0 (val_var rfl) val_c)) (decide_eq_decide.mpr (by omega))
  have gt2 : Ans (tTest (tOp oGt (tVar 4) (tC (.int 0)))) [some (.str (tx a)), some (.str (tx b)), some (.ref t), some (.int (i : Int)), some (.int (j : Int)), some (.ref l)] H' (decide (0 < j)) := Ans.to (ans_te (val_I0 (val_var rfl) val_c)) (decide_eq_decide.mpr (by omega))
  refine ⟨_, ans_orW gt1 (fun _ => gt2), fun hb => ?_, fun hb => ?_⟩
  · refine ⟨fun σ2 H2 => ∃ m', m' < i + j ∧ ∃ (S' : Hp) (ws : List V) (acc : List Ch) (i j : Nat), σ2 = [some (.str (tx a)), some (.str (tx b)), some (.ref t), some (.int (i : Int)), some (.int (j : Int)), some (.ref l)] ∧ Gw S H S' H2 ∧ Ex S2 S' ∧ S' l = none ∧ H2 l = some (.lst ws) ∧ AtA S' ws (acc.map eCh) ∧ acc ++ trb a b i j = trb a b a.length b.length ∧ i ≤ a.length ∧ j ≤ b.length ∧ m' = i + j, fun _ _ h => h, ?_⟩
    have t1 := ans_andW (u := tTest (tOp rEq (tOp (rIxL K) (tOp (rIxL K) (tVar 2) (tVar 3)) (tVar 4)) (tOp oAdd (tOp (rIxL K) (tOp (rIxL K) (tVar 2) (tOp oSub (tVar 3) (tC (.int 1)))) (tVar 4)) (tC (.int 1))))) (b := decide (ed a b i j = ed a b (i - 1) j + 1)) gt1 fun z => Ans.to (ans_te (val_eq (cell i j hi hj H' (e2.trans g.i) _ _ _ (val_var rfl) (val_var rfl) rfl) (val_I0 (cell (i - 1) j (by omega) hj H' (e2.trans g.i) _ _ _ (val_is (val_I0 (val_var rfl) val_c) (by have := of_decide_eq_true z; congr 1; omega)) (val_var rfl) rfl) val_c) rfl)) (decide_eq_decide.mpr ⟨fun q => by have := V.int.inj q; omega, fun q => by congr 1; omega⟩)
    refine y_if t1 (fun hb => ?_) (fun hb1 => ?_)
    · have hb : 0 < i ∧ ed a b i j = ed a b (i - 1) j + 1 := by simpa using hb
      obtain ⟨i0, rfl⟩ : ∃ i0, i = i0 + 1 := ⟨i - 1, by omega⟩
      have et := trb_ou (show ed a b (i0 + 1) j = ed a b i0 j + 1 from hb.2)
      rw [et] at hacc
      refine x_augI (f := fun i j => i - j) rfl val_c ?_
      have xa := List.getElem?_eq_getElem (show i0 < a.length by omega)
      have xd : a.getD i0 0 = a[i0] := by rw [List.getD_eq_getElem?_getD, xa]; rfl
      refine ⟨_, rfl, .inl ⟨rfl, _, SqL.of hw⟩, ?_⟩
      refine c_tup (va_2 val_c (val_ixS (i := (i0 : Int)) (val_var rfl) (val_is (val_var rfl) (by congr 1; omega)) (by omega) (at_nat rfl xa))) (by simp) fun p hp => ?_
      have g3 := g.put (o := .tup (vCh (.ou (a.getD i0 0)))) hp
      have hpl : p ≠ l := fun e => by rw [e, hw] at hp; cases hp
      have hw3 := upd_get (o := .tup (vCh (.ou (a.getD i0 0)))) hw hp
      have sl3 : upd S' p (.tup (vCh (.ou (a.getD i0 0)))) l = none := by rw [upd_ne hpl.symm]; exact sl
      rw [← xd]
      refine ⟨l, ws, _, rfl, rfl, hw3, small6 (by omega), _, ?_, _, ws ++ [.ref p], acc ++ [.ou (a.getD i0 0)], i0, j, ?_, g3.set hl0 sl3, e2.trans (Ex.new (g.freeS hp)), sl3, upd_same, (hA.mono (Ex.new (g.freeS hp))).snocM (At.ch upd_same), ?_, by omega, hj, rfl⟩
      · omega
      · have e0 : ((i0 + 1 : Nat) : Int) - 1 = (i0 : Int) := by omega
        show [some (V.str (tx a)), some (.str (tx b)), some (.ref t), some (.int (((i0 + 1 : Nat) : Int) - 1)), some (.int (j : Int)), some (.ref l)] = _
        rw [e0]
      · rw [List.append_assoc]; exact hacc
    · have t2 := ans_andW (u := tTest (tOp rEq (tOp (rIxL K) (tOp (rIxL K) (tVar 2) (tVar 3)) (tVar 4)) (tOp oAdd (tOp (rIxL K) (tOp (rIxL K) (tVar 2) (tVar 3)) (tOp oSub (tVar 4) (tC (.int 1)))) (tC (.int 1))))) (b := decide (ed a b i j = ed a b i (j - 1) + 1)) gt2 fun z => Ans.to (ans_te (val_eq (cell i j hi hj H' (e2.trans g.i) _ _ _ (val_var rfl) (val_var rfl) rfl) (val_I0 (cell i (j - 1) hi (by omega) H' (e2.trans g.i) _ _ _ (val_var rfl) (val_is (val_I0 (val_var rfl) val_c) (by have := of_decide_eq_true z; congr 1; omega)) rfl) val_c) rfl)) (decide_eq_decide.mpr ⟨fun q => by have := V.int.inj q; omega, fun q => by congr 1; omega⟩)
      have n1 : ∀ n, i = n + 1 → ed a b i j ≠ ed a b n j + 1 := fun n e q => by
        subst e
        simp at hb1
        exact hb1 q
      refine y_if t2 (fun hb => ?_) (fun hb2 => ?_)
      · have hb : 0 < j ∧ ed a b i j = ed a b i (j - 1) + 1 := by simpa using hb
        obtain ⟨j0, rfl⟩ : ∃ j0, j = j0 + 1 := ⟨j - 1, by omega⟩
        have et := trb_im n1 (show ed a b i (j0 + 1) = ed a b i j0 + 1 from hb.2)
        rw [et] at hacc
        refine x_augI (f := fun i j => i - j) rfl val_c ?_
        have xa := List.getElem?_eq_getElem (show j0 < b.length by omega)
        have xd : b.getD j0 0 = b[j0] := by rw [List.getD_eq_getElem?_getD, xa]; rfl
        refine ⟨_, rfl, .inl ⟨rfl, _, SqL.of hw⟩, ?_⟩
        refine c_tup (va_2 val_c (val_ixS (i := (j0 : Int)) (val_var rfl) (val_is (val_var rfl) (by congr 1; omega)) (by omega) (at_nat rfl xa))) (by simp) fun p hp => ?_
        have g3 := g.put (o := .tup (vCh (.im (b.getD j0 0)))) hp
        have hpl : p ≠ l := fun e => by rw [e, hw] at hp; cases hp
        have hw3 := upd_get (o := .tup (vCh (.im (b.getD j0 0)))) hw hp
        have sl3 : upd S' p (.tup (vCh (.im (b.getD j0 0)))) l = none := by rw [upd_ne hpl.symm]; exact sl
        rw [← xd]
        refine ⟨l, ws, _, rfl, rfl, hw3, small6 (by omega), _, ?_, _, ws ++ [.ref p], acc ++ [.im (b.getD j0 0)], i, j0, ?_, g3.set hl0 sl3, e2.trans (Ex.new (g.freeS hp)), sl3, upd_same, (hA.mono (Ex.new (g.freeS hp))).snocM (At.ch upd_same), ?_, hi, by omega, rfl⟩
        · omega
        · have e0 : ((j0 + 1 : Nat) : Int) - 1 = (j0 : Int) := by omega
          show [some (V.str (tx a)), some (.str (tx b)), some (.ref t), some (.int (i : Int)), some (.int (((j0 + 1 : Nat) : Int) - 1)), some (.ref l)] = _
          rw [e0]
        · rw [List.append_assoc]; exact hacc
      · have hi0 : 0 < i := by
          apply Nat.pos_of_ne_zero
          intro z
          subst z
          rw [ed_0, ed_0] at hb2
          simp at hb hb2
          omega
        have hj0 : 0 < j := by
          apply Nat.pos_of_ne_zero
          intro z
          subst z
          obtain ⟨i0, rfl⟩ : ∃ i0, i = i0 + 1 := ⟨i - 1, by omega⟩
          exact n1 i0 rfl (by rw [ed_s0, ed_s0])
        obtain ⟨i0, rfl⟩ : ∃ i0, i = i0 + 1 := ⟨i - 1, by omega⟩
        obtain ⟨j0, rfl⟩ : ∃ j0, j = j0 + 1 := ⟨j - 1, by omega⟩
        have n2 : ed a b (i0 + 1) (j0 + 1) ≠ ed a b (i0 + 1) j0 + 1 := fun q => by
          simp at hb2
          exact hb2 q
        have et := trb_both (n1 i0 rfl) n2
        rw [et] at hacc hle
        rw [List.length_append] at hle
        refine x_augI (f := fun i j => i - j) rfl val_c (x_augI (f := fun i j => i - j) rfl val_c ?_)
        have xa := List.getElem?_eq_getElem (show i0 < a.length by omega)
        have xb := List.getElem?_eq_getElem (show j0 < b.length by omega)
        have xda : a.getD i0 0 = a[i0] := by rw [List.getD_eq_getElem?_getD, xa]; rfl
        have xdb : b.getD j0 0 = b[j0] := by rw [List.getD_eq_getElem?_getD, xb]; rfl
        refine ⟨_, rfl, .inl ⟨rfl, _, SqL.of hw⟩, ?_⟩
        refine c_call (va_2 (val_ixS (i := (i0 : Int)) (val_var rfl) (val_is (val_var rfl) (by congr 1; omega)) (by omega) (at_nat rfl xa)) (val_ixS (i := (j0 : Int)) (val_var rfl) (val_is (val_var rfl) (by congr 1; omega)) (by omega) (at_nat rfl xb))) ⟨S', [a[i0]], [b[j0]], rfl, g.i, Nat.le_refl _, Nat.le_refl _, fun S3 H3 v3 g3 a3 => ?_⟩
        rw [← xda, ← xdb] at a3
        obtain ⟨q, zs, rfl, hq, hzs⟩ := a3.chs_
        have hzl := hzs.lenM
        refine ⟨l, q, ws, zs, rfl, rfl, g3.h _ _ hw, g3.i _ _ hq, small5 (by omega), _, ?_, S3, ws ++ zs, acc ++ comb [a.getD i0 0] [b.getD j0 0], i0, j0, ?_, (g.trans g3).set hl0 (g3.out hw sl), e2.trans g3.s, g3.out hw sl, upd_same, ?_, ?_, by omega, by omega, rfl⟩
        · omega
        · have e0 : ((i0 + 1 : Nat) : Int) - 1 = (i0 : Int) := by omega
          have e1 : ((j0 + 1 : Nat) : Int) - 1 = (j0 : Int) := by omega
          show [some (V.str (tx a)), some (.str (tx b)), some (.ref t), some (.int (((i0 + 1 : Nat) : Int) - 1)), some (.int (((j0 + 1 : Nat) : Int) - 1)), some (.ref l)] = _
          rw [e0, e1]
        · rw [List.map_append]; exact (hA.mono g3.s).app hzs
        · rw [List.append_assoc]; exact hacc
  · have b1 : i = 0 ∧ j = 0 := by simpa using hb
    obtain ⟨rfl, rfl⟩ := b1
    rw [trb_0, List.append_nil] at hacc
    refine x_retC ⟨_, rfl, l, ws, rfl, SqL.of hw, fun r hr => ?_⟩
    have gf := g.frz hl0 sl hw
    refine k _ _ _ (g.put (o := .lst ws.reverse) hr) ?_
    unfold chg
    rw [← hacc]
    refine .lst upd_same ?_
    rw [List.map_reverse]
    exact (hA.mono (Ex.new (g.freeS hr))).rev
theorem ok_changes_of (T : Txt w K mg) : Df P w K mg base 5 (He.ga K "changes_of") ["side", "top"] (sp_changes_of K) :=
  df_of T.f_changes_of sc_changes_of (fun _ _ _ _ _ _ us hl => match us, hl with | [_, _], _ => rfl) (fun vs H Q E h => by
    obtain ⟨S, a, b, rfl, _⟩ := h
    rfl) (fun cdv A outer s H E hr => w_changes_of T cdv A outer s H E hr) (fun vs H Q E h => r_changes_of T vs H Q E h)
end
end Pk
namespace Pk
open PySem PySem.Spec
open PyProof.Rows L2
/-! ## _law_old -/
theorem sc_law_old : FnScope ["_law_changes", "_law_change"] ["_law_changes"] (defScope s_law_old) := ⟨rfl, rfl, rfl, by decide +kernel, rfl, by decide +kernel, by decide +kernel⟩
def sp_law_old (K : PySem.W.Frag) : Sp := fun vs H Q _ => ∃ (S : Hp) (v : V) (cs : List Ch), vs = [v] ∧ Ex S H ∧ At S v (eChs cs) ∧ cs.length ≤ 1000 ∧ ∀ H', Ex H H' → Q (.str (tx (olds cs))) H'
def t_law_old (K : PySem.W.Frag) : TS := (tRet (tM1 (cJoin K) (tC (.str "")) (tLc (iList K (tVar 0)) (gName 1) (tTest (tOp rNe (tOp (rIxT K) (tVar 1) (tC (.int 0))) (tC (.str "in")))) (tOp (rIxT K) (tVar 1) (tC (.int 1))) [1])))
section
variable {P : Program} {w : World} {K : PySem.W.Frag} {mg : Str → Option Value} {base : Heap}
theorem w_law_old (T : Txt w K mg) (cdv : Value) (A : Around) (outer : List Env) (s : Shared) (H : Hp) (E : XK) (hr : Room 0 (A.deeper (envOfC "_law_old" (defScope s_law_old) s.heap.objs.size (He.ga K "_law_old") cdv))) :
    PSs (cxOf CX0 P w K mg base ["_law_changes", "_law_change"] "_law_old" (defScope s_law_old) (He.ga K "_law_old") cdv A outer s H E).nox (defBody s_law_old) (t_law_old K) := by
  exact (pss_one (ps_ret (pe_join pe_str (pe_lc (own := [("_law_change", 1)]) (g := (gName 1)) (tt := (tTest (tOp rNe (tOp (rIxT K) (tVar 1) (tC (.int 0))) (tC (.str "in"))))) rfl sc_law_old.nd (pi_list (pv 0)) (blkOk_by (N := ["_law_changes", "_law_change"]) (sc := defScope s_law_old) (by decide +kernel)) (fun _ _ _ _ _ => (pg_name (i := 1) sc_law_old.nd rfl (Or.inl rfl))) (fun _ _ _ _ _ => (pts_one (pt_cmpR op_ne (pe_ix ix_tup (pv 1) pe_int (fun _ _ => rfl)) pe_str (nomark _)))) (fun _ _ _ _ _ => (pe_ix ix_tup (pv 1) pe_int (fun _ _ => rfl)))))))
def keepsOf_ol (cs : List Ch) : List (List Nat) := (cs.map Ch.ol).filter fun l => l ≠ []
theorem keepsOf_ol_len (cs : List Ch) : (keepsOf_ol cs).length ≤ cs.length := by
  have h := List.length_filter_le (fun l : List Nat => decide (l ≠ [])) (cs.map Ch.ol)
  rw [List.length_map] at h
  exact h
theorem keepsOf_ol_fl (cs : List Ch) : (keepsOf_ol cs).flatten = olds cs := by
  induction cs with
  | nil => rfl
  | cons c r ih =>
    rw [olds_cons, ← ih]
    unfold keepsOf_ol
    rw [List.map_cons, List.filter_cons]
    by_cases e : c.ol = []
    · rw [if_neg (by simp [e]), e]; rfl
    · rw [if_pos (by simp [e]), List.flatten_cons]
theorem keepsOf_ol_succ (cs : List Ch) (n : Nat) (c : Ch) (h : cs[n]? = some c) : keepsOf_ol (cs.take (n + 1)) = keepsOf_ol (cs.take n) ++ (if c.ol = [] then [] else [c.ol]) := by
  rw [List.take_succ, h]
  unfold keepsOf_ol
  rw [List.map_append, List.filter_append]
  refine congrArg _ ?_
  cases c <;> rfl
theorem r_law_old (T : Txt w K mg) (vs : List V) (H : Hp) (Q : VK) (E : XK) (h : sp_law_old K vs H Q E) : t_law_old K { nx := fun _ H' => Q .non H', rt := Q } (start ["_law_changes", "_law_change"] vs) H := by
  obtain ⟨S, v, cs, rfl, eS, hv, hz, k⟩ := h
  obtain ⟨p, vs, rfl, hp, ha⟩ := hv.chs_
  have hn := ha.lenM
  refine x_retC ⟨⟨_, rfl⟩, c_tlc (S := S) (fun R r => ⟨_, rfl, p, rfl, ⟨vs, SqL.of (eS _ _ hp)⟩, r⟩) (walk_list (K := K) (a := p) (xs := vs)) (fun n S acc => acc = (keepsOf_ol (cs.take n)).map fun l => V.str (tx l)) eS (fun H' e => SqL.of (e _ _ hp)) rfl (fun n S' H' acc x H'' R L hk g1 hF hy kR kL => ?_) (fun D S' H' acc hF g1 sD hD eD => ?_)⟩
  · obtain ⟨rfl, hx⟩ := hy
    obtain ⟨c, hcn, hat⟩ := ha.getM hx
    obtain ⟨q, rfl, hq⟩ := hat.ch_
    have hq' := g1.i _ _ (g1.s _ _ hq)
    have hl : acc.length < 100000 := by
      rw [hF, List.length_map]
      have h1 := keepsOf_ol_len (cs.take n)
      rw [List.length_take] at h1
      omega
    have et : (keepsOf_ol (cs.take (n + 1))).map (fun l => V.str (tx l)) = acc ++ (if c.ol = [] then [] else [c.ol]).map fun l => V.str (tx l) := by rw [keepsOf_ol_succ cs n c hcn, List.map_append, hF]
    cases c with
    | kp a => exact ⟨rfl, c_test (b := true) (Ans.to (ans_te (val_ne (val_ixT (val_var rfl) val_c hq' at_0) val_c rfl)) (by rw [decV ne_ki]; rfl)) (fun _ => (val_ixT (val_var rfl) val_c hq' at_1) R (kR _ S' _ (Gw.refl g1.i) et.symm hl)) (fun z => by cases z)⟩
    | cg a b => exact ⟨rfl, c_test (b := true) (Ans.to (ans_te (val_ne (val_ixT (val_var rfl) val_c hq' at_0) val_c rfl)) (by rw [decV ne_ci]; rfl)) (fun _ => (val_ixT (val_var rfl) val_c hq' at_1) R (kR _ S' _ (Gw.refl g1.i) et.symm hl)) (fun z => by cases z)⟩
    | ou a => exact ⟨rfl, c_test (b := true) (Ans.to (ans_te (val_ne (val_ixT (val_var rfl) val_c hq' at_0) val_c rfl)) (by rw [decV ne_oi]; rfl)) (fun _ => (val_ixT (val_var rfl) val_c hq' at_1) R (kR _ S' _ (Gw.refl g1.i) et.symm hl)) (fun z => by cases z)⟩
    | im a => exact ⟨rfl, c_test (b := false) (Ans.to (ans_te (val_ne (val_ixT (val_var rfl) val_c hq' at_0) val_c rfl)) (by rw [decT]; rfl)) (fun z => by cases z) (fun _ => kL S' _ (Gw.refl g1.i) (et.trans (List.append_nil _)).symm)⟩
  · refine c_join (keepsOf_ol cs) ?_ ?_ ?_
    · rw [eD, hF, List.take_of_length_le (by omega)]
    · rw [keepsOf_ol_fl]; have := olds_len cs; omega
    · rw [keepsOf_ol_fl]; exact k H' g1.h
theorem ok_law_old (T : Txt w K mg) : Df P w K mg base 1 (He.ga K "_law_old") ["_law_changes"] (sp_law_old K) :=
  df_of T.f_law_old sc_law_old (fun _ _ _ _ _ _ us hl => match us, hl with | [_], _ => rfl) (fun vs H Q E h => by
    obtain ⟨S, v, cs, rfl, _⟩ := h
    rfl) (fun cdv A outer s H E hr => w_law_old T cdv A outer s H E hr) (fun vs H Q E h => r_law_old T vs H Q E h)
end
end Pk
namespace Pk
open PySem PySem.Spec
open PyProof.Rows L2
/-! ## _law_leads -/
theorem sc_law_leads : FnScope ["_law_changes", "_law_row_here", "_law_goal", "_law_change"] ["_law_changes", "_law_row_here", "_law_goal"] (defScope s_law_leads) := ⟨rfl, rfl, rfl, by decide +kernel, rfl, by decide +kernel, by decide +kernel⟩
def sp_law_leads (K : PySem.W.Frag) : Sp := fun vs H Q _ => ∃ (S : Hp) (v : V) (cs : List Ch), vs = [v, .str (tx (olds cs)), .str (tx (news cs))] ∧ Ex S H ∧ At S v (eChs cs) ∧ cs.length ≤ 1000 ∧ ∀ H', Ex H H' → Q (.bl true) H'
def t_law_leads (K : PySem.W.Frag) : TS := (tSeq (tIfS (tOr (tNot (tB (tCB (rIsi K) (tCons (tVar 0) (tCons (tC (.ty "list")) tNil))))) (tNot (tB (tCB (rAll K) (tCons (tLc (iList K (tVar 0)) (gName 3) tYes (tCB (rIsi K) (tCons (tVar 3) (tCons (tC (.ty "tuple")) tNil))) [3]) tNil))))) (tRet (tC (.bl false))) tNext)
  (tRet (tAndV (tOp rEq (tCall (sp_law_old K) [] E0 (tCons (tVar 0) tNil)) (tVar 1)) (tOp rEq (tCall (sp_law_new K) [] E0 (tCons (tVar 0) tNil)) (tVar 2)))))
section
variable {P : Program} {w : World} {K : PySem.W.Frag} {mg : Str → Option Value} {base : Heap}
theorem w_law_leads (T : Txt w K mg) (cdv : Value) (A : Around) (outer : List Env) (s : Shared) (H : Hp) (E : XK) (hr : Room 1 (A.deeper (envOfC "_law_leads" (defScope s_law_leads) s.heap.objs.size (He.ga K "_law_leads") cdv))) :
    PSs (cxOf CX0 P w K mg base ["_law_changes", "_law_row_here", "_law_goal", "_law_change"] "_law_leads" (defScope s_law_leads) (He.ga K "_law_leads") cdv A outer s H E).nox (defBody s_law_leads) (t_law_leads K) := by
  obtain ⟨⟨fd_law_old, F_law_old, b_law_old⟩, k_law_old⟩ := ok_law_old (P := P) (base := base) T
  obtain ⟨⟨fd_law_new, F_law_new, b_law_new⟩, k_law_new⟩ := ok_law_new (P := P) (base := base) T
  exact (pss_cons (ps_if (PW.pt (pw_or (pt_not (pt_val (pe_callB call_isi (by exact rfl) T.n_isinstance (by decide +kernel) (pa_cons (pv 0) (pa_cons (pe_bltn (v := .ty "list") (by exact rfl) T.n_list (by decide +kernel) rfl) pa_nil))))) (pw_or1 (pt_not (pt_val (pe_callB (cr_all rfl) (by exact rfl) T.n_all (by decide +kernel) (pa_cons (pe_lc (own := [("_law_change", 3)]) (g := (gName 3)) (tt := tYes) rfl sc_law_leads.nd (pi_list (pv 0)) (blkOk_by (N := ["_law_changes", "_law_row_here", "_law_goal", "_law_change"]) (sc := defScope s_law_leads) (by decide +kernel)) (fun _ _ _ _ _ => (pg_name (i := 3) sc_law_leads.nd rfl (Or.inl rfl))) (fun _ _ _ _ _ => pts_nil) (fun _ _ _ _ _ => (pe_callB call_isi (by exact rfl) T.n_isinstance (by decide +kernel) (pa_cons (pv 3) (pa_cons (pe_bltn (v := .ty "tuple") (by exact rfl) T.n_tuple (by decide +kernel) rfl) pa_nil))))) pa_nil))))))) (pss_one (ps_ret pe_bl)) pss_nil)
  (pss_one (ps_ret (pe_and (pe_cmpR op_eq (pe_call F_law_old (hr.mono (by decide)) (by exact rfl) T.g_law_old k_law_old b_law_old .nil pass0 (pa_cons (pv 0) pa_nil)) (pv 1) (nomark _)) (pe_one (pe_cmpR op_eq (pe_call F_law_new (hr.mono (by decide)) (by exact rfl) T.g_law_new k_law_new b_law_new .nil pass0 (pa_cons (pv 0) pa_nil)) (pv 2) (nomark _)))))))
theorem r_law_leads (T : Txt w K mg) (vs : List V) (H : Hp) (Q : VK) (E : XK) (h : sp_law_leads K vs H Q E) : t_law_leads K { nx := fun _ H' => Q .non H', rt := Q } (start ["_law_changes", "_law_row_here", "_law_goal", "_law_change"] vs) H := by
  obtain ⟨S, v, cs, rfl, eS, hv, hz, k⟩ := h
  have hv2 := hv
  obtain ⟨p, vs, rfl, hp, ha⟩ := hv2.chs_
  have hn := ha.lenM
  refine or_f (Ans.to (ans_not (ans_val (val_isi (b := true) (val_var rfl) val_c (.ty _) (.base (.lst (eS _ _ hp))) (kit_ty (by decide +kernel))))) rfl) ?_
  refine c_nota (c_tlc (S := S) (fun R r => ⟨_, rfl, p, rfl, ⟨vs, SqL.of (eS _ _ hp)⟩, r⟩) (walk_list (K := K) (a := p) (xs := vs)) (fun n S acc => acc = (List.replicate n true).map V.bl) eS (fun H' e => SqL.of (e _ _ hp)) rfl (fun n S' H' acc x H'' R L hk g1 hF hy kR kL => ?_) (fun D S' H' acc hF g1 sD hD eD => ?_))
  · obtain ⟨rfl, hx⟩ := hy
    obtain ⟨c, hcn, hat⟩ := ha.getM hx
    obtain ⟨q, rfl, hq⟩ := hat.ch_
    refine ⟨rfl, c_yes (val_isi (b := true) (val_var rfl) val_c (.ty _) (.base (.tup (g1.i _ _ (g1.s _ _ hq)))) (kit_ty (by decide +kernel)) R (kR _ S' _ (Gw.refl g1.i) ?_ ?_))⟩
    · rw [hF, List.replicate_succ', List.map_append]; rfl
    · rw [hF, List.length_map, List.length_replicate]; omega
  · refine ⟨D, _, rfl, SqL.of (by rw [eD, hF]), ?_⟩
    rw [show ((List.replicate vs.length true).all id) = true by simp]
    refine ⟨true, rfl, iteF ?_⟩
    refine ⟨_, rfl, S, _, cs, rfl, eS.trans g1.h, hv, hz, fun H1 e1 => ⟨_, rfl, rfl, _, rfl, ?_⟩⟩
    rw [decT]
    refine iteT ?_
    refine ⟨_, rfl, S, _, cs, rfl, (eS.trans g1.h).trans e1, hv, hz, fun H2 e2 => ⟨_, rfl, rfl, ?_⟩⟩
    rw [decT]
    exact k H2 ((g1.h.trans e1).trans e2)
theorem ok_law_leads (T : Txt w K mg) : Df P w K mg base 2 (He.ga K "_law_leads") ["_law_changes", "_law_row_here", "_law_goal"] (sp_law_leads K) :=
  df_of T.f_law_leads sc_law_leads (fun _ _ _ _ _ _ us hl => match us, hl with | [_, _, _], _ => rfl) (fun vs H Q E h => by
    obtain ⟨S, v, cs, rfl, _⟩ := h
    rfl) (fun cdv A outer s H E hr => w_law_leads T cdv A outer s H E hr) (fun vs H Q E h => r_law_leads T vs H Q E h)
end
end Pk
namespace Pk
open PySem PySem.Spec
open PyProof.Rows L2
/-! ## back -/
theorem sc_back : FnScope ["changes", "found", "change"] ["changes"] (defScope s_back) := ⟨rfl, rfl, rfl, by decide +kernel, rfl, by decide +kernel, by decide +kernel⟩
def sp_back (K : PySem.W.Frag) : Sp := fun vs H Q _ => ∃ (S : Hp) (v : V) (cs : List Ch), vs = [v] ∧ Ex S H ∧ At S v (eChs cs) ∧ ChsOk cs ∧ ∀ S' H' v', Gw S H S' H' → At S' v' (eChs (cs.map Ch.bk)) → Q v' H'
def t_back (K : PySem.W.Frag) : TS := (tSeq (tDrop (tCall (sp_need_changes K) [] E0 (tCons (tVar 0) tNil)))
  (tSeq (tAsg (tLst tNil) (gName 1))
  (tSeq (tFor (iList K (tVar 0)) (gName 2) (tDrop (tBM K "list" rExtend (tVar 1) (tCons (tCall (sp_come_to K) [] E0 (tCons (tCall (sp_new_of K) [] E0 (tCons (tVar 2) tNil)) (tCons (tCall (sp_old_of K) [] E0 (tCons (tVar 2) tNil)) tNil))) tNil))))
  (tRet (tVar 1)))))
section
variable {P : Program} {w : World} {K : PySem.W.Frag} {mg : Str → Option Value} {base : Heap}
theorem w_back (T : Txt w K mg) (cdv : Value) (A : Around) (outer : List Env) (s : Shared) (H : Hp) (E : XK) (hr : Room 4 (A.deeper (envOfC "back" (defScope s_back) s.heap.objs.size (He.ga K "back") cdv))) :
    PSs (cxOf CX0 P w K mg base ["changes", "found", "change"] "back" (defScope s_back) (He.ga K "back") cdv A outer s H E).nox (defBody s_back) (t_back K) := by
  obtain ⟨⟨fd_need_changes, F_need_changes, b_need_changes⟩, k_need_changes⟩ := ok_need_changes (P := P) (base := base) T
  obtain ⟨⟨fd_new_of, F_new_of, b_new_of⟩, k_new_of⟩ := ok_new_of (P := P) (base := base) T
  obtain ⟨⟨fd_old_of, F_old_of, b_old_of⟩, k_old_of⟩ := ok_old_of (P := P) (base := base) T
  obtain ⟨⟨fd_come_to, F_come_to, b_come_to⟩, k_come_to⟩ := ok_come_to (P := P) (base := base) T
  exact (pss_cons (ps_expr (pe_call F_need_changes (hr.mono (by decide)) (by exact rfl) T.g_need_changes k_need_changes b_need_changes .nil pass0 (pa_cons (pv 0) pa_nil)))
  (pss_cons (ps_set (i := 1) sc_back.nd rfl (Or.inl rfl) (pe_lst pa_nil))
  (pss_cons (ps_for PassesOwn.never rfl (pi_list (pv 0)) (pg_name (i := 2) sc_back.nd rfl (Or.inl rfl)) (pss_one (ps_expr (pe_bm PySem.F.plainAttrs_list PySem.F.slot_list_extend PySem.F.type_list_extend mt_extend (pv 1) (pa_cons (pe_call F_come_to (hr.mono (by decide)) (by exact rfl) T.g_come_to k_come_to b_come_to .nil pass0 (pa_cons (pe_call F_new_of (hr.mono (by decide)) (by exact rfl) T.g_new_of k_new_of b_new_of .nil pass0 (pa_cons (pv 2) pa_nil)) (pa_cons (pe_call F_old_of (hr.mono (by decide)) (by exact rfl) T.g_old_of k_old_of b_old_of .nil pass0 (pa_cons (pv 2) pa_nil)) pa_nil))) pa_nil)))))
  (pss_one (ps_ret (pv 1))))))
theorem r_back (T : Txt w K mg) (vs : List V) (H : Hp) (Q : VK) (E : XK) (h : sp_back K vs H Q E) : t_back K { nx := fun _ H' => Q .non H', rt := Q } (start ["changes", "found", "change"] vs) H := by
  obtain ⟨S, v, cs, rfl, eS, hv, hc, k⟩ := h
  have hv2 := hv
  obtain ⟨p, vs, rfl, hp, ha⟩ := hv2.chs_
  have hn := ha.lenM
  have hz := hc.1
  refine x_dropC (c_call (va_1 (val_var rfl)) ⟨S, _, cs, rfl, eS, hv, hc, fun H1 e1 => ?_⟩)
  refine x_setC (c_lst va_nil (by simp) fun l hl => ?_)
  have hl0 := e1.free hl
  refine x_forL (K := K) (a := p) (xs := vs) (val_var rfl) (SqL.of (((eS.trans e1).trans (Ex.new hl)) _ _ hp)) (fun n σ' H' => ∃ (S' : Hp) (ws : List V) (z : Option V), σ' = [some (.ref p), some (.ref l), z] ∧ Gw S H S' H' ∧ S' l = none ∧ H' l = some (.lst ws) ∧ AtA S' ws (((cs.take n).map Ch.bk).map eCh)) ⟨S, [], none, rfl, ((Gw.refl eS).any e1).mut hl, eS.free hl0, upd_same, .nil⟩ ?_ ?_ ?_
  · rintro n σ' H' ⟨S', ws, z, _, g, _⟩
    exact SqL.of (g.i _ _ (g.s _ _ hp))
  · rintro n y σ' H' hy ⟨S', ws, z, rfl, g, sl, hw, hA⟩
    obtain ⟨c, hcn, hat⟩ := ha.getM hy
    obtain ⟨q, rfl, hq⟩ := hat.ch_
    have hq' := g.i _ _ (g.s _ _ hq)
    refine ⟨_, rfl, .inl ⟨rfl, _, SqL.of hw⟩, _, rfl, c, q, rfl, hq', _, rfl, c, q, rfl, hq', S', c.nw, c.ol, rfl, g.i, nw_len c, ol_len c, fun S2 H2 v2 g2 a2 => ?_⟩
    rw [comb_bk c (hc.2 c (List.mem_of_getElem? hcn))] at a2
    obtain ⟨b, zs, rfl, hb, hzs⟩ := a2.chs_
    have hlen := hA.lenM
    rw [List.length_map, List.length_take] at hlen
    have hzl := hzs.lenM
    refine ⟨l, b, ws, zs, rfl, rfl, g2.h _ _ hw, g2.i _ _ hb, small5 (by simp only [List.length_cons, List.length_nil] at hzl; omega), S2, ws ++ zs, _, rfl, (g.trans g2).set hl0 (g2.out hw sl), g2.out hw sl, upd_same, ?_⟩
    rw [List.take_succ, hcn, List.map_append, List.map_append]
    exact (hA.mono g2.s).app hzs
  · rintro σ' H' ⟨S', ws, z, rfl, g, sl, hw, hA⟩
    refine x_ret (val_var rfl) (k _ _ _ (g.frz hl0 sl hw) ?_)
    rw [List.take_of_length_le (by omega)] at hA
    exact .lst upd_same (hA.mono (Ex.new sl))
theorem ok_back (T : Txt w K mg) : Df P w K mg base 5 (He.ga K "back") ["changes"] (sp_back K) :=
  df_of T.f_back sc_back (fun _ _ _ _ _ _ us hl => match us, hl with | [_], _ => rfl) (fun vs H Q E h => by
    obtain ⟨S, v, cs, rfl, _⟩ := h
    rfl) (fun cdv A outer s H E hr => w_back T cdv A outer s H E hr) (fun vs H Q E h => r_back T vs H Q E h)
end
end Pk
namespace Pk
open PySem PySem.Spec
open PyProof.Rows L2
/-! ## _law_both_ways -/
theorem sc_law_both_ways : FnScope ["_law_row_here", "_law_goal", "_law_drawn", "_law_at", "_law_heaps_here", "_law_least", "_law_more", "_law_cheap", "_law_other", "_law_there"] ["_law_row_here", "_law_goal", "_law_drawn", "_law_at"] (defScope s_law_both_ways) := ⟨rfl, rfl, rfl, by decide +kernel, rfl, by decide +kernel, by decide +kernel⟩
def sp_law_both_ways (K : PySem.W.Frag) : Sp := fun vs H Q _ => ∃ (S : Hp) (a b : List Nat) (v : V) (cs : List Ch) (n : Int), vs = [.str (tx a), .str (tx b), v, .int n] ∧ Ex S H ∧ At S v (eChs cs) ∧ Plain a ∧ Plain b ∧ ChsOk cs ∧ olds cs = a ∧ news cs = b ∧ ∀ H', Ex H H' → Q (.bl true) H'
def t_law_both_ways (K : PySem.W.Frag) : TS := (tSeq (tAsg (tCall (sp_law_heaps K) [] E0 (tCons (tCall (sp_law_parted K) [] E0 (tCons (tVar 0) tNil)) (tCons (tCall (sp_law_parted K) [] E0 (tCons (tVar 1) tNil)) tNil))) (gName 4))
  (tSeq (tAsg (tCall (sp_cost K) [] E0 (tCons (tVar 0) (tCons (tVar 1) tNil))) (gName 5))
  (tSeq (tIfS (tOr (tNot (tB (tCB (rIsi K) (tCons (tVar 5) (tCons (tC (.ty "int")) tNil))))) (tOr (tB (tCB (rIsi K) (tCons (tVar 5) (tCons (tC (.ty "bool")) tNil)))) (tTest (tOp rNe (tOp oAdd (tVar 5) (tCB (cLenL K) (tCons (tVar 4) tNil))) (tOp oAdd (tCB cLenS (tCons (tVar 0) tNil)) (tCB cLenS (tCons (tVar 1) tNil))))))) (tRet (tC (.bl false))) tNext)
  (tSeq (tIfS (tOr (tTest (tOp oGt (tVar 5) (tCall (sp_law_pays K) [] E0 (tCons (tVar 2) tNil)))) (tOr (tTest (tOp rNe (tOp rEq (tVar 5) (tC (.int 0))) (tOp rEq (tVar 0) (tVar 1)))) (tTest (tOp rNe (tCall (sp_cost K) [] E0 (tCons (tVar 1) (tCons (tVar 0) tNil))) (tVar 5))))) (tRet (tC (.bl false))) tNext)
  (tSeq (tIfS (tOr (tTest (tOp rNe (tCall (sp_paid K) [] E0 (tCons (tVar 2) tNil)) (tCall (sp_law_pays K) [] E0 (tCons (tVar 2) tNil)))) (tOr (tTest (tOp rNe (tCall (sp_done K) [] E0 (tCons (tVar 0) (tCons (tVar 2) tNil))) (tVar 1))) (tNot (tB (tCall (sp_law_shown K) [] E0 (tCons (tVar 0) (tCons (tVar 1) (tCons (tVar 2) (tCons (tVar 4) tNil))))))))) (tRet (tC (.bl false))) tNext)
  (tSeq (tAsg (tCall (sp_law_part_one K) [] E0 (tCons (tVar 4) (tCons (tVar 3) tNil))) (gName 6))
  (tSeq (tIfS (tAnd (tTest (tOp rNotN (tVar 6) (tC .non))) (tNot (tB (tCall (sp_law_shown K) [] E0 (tCons (tVar 0) (tCons (tVar 1) (tCons (tVar 2) (tCons (tVar 6) tNil)))))))) (tRet (tC (.bl false))) tNext)
  (tSeq (tAsg (tCall (sp_changes_of K) [] E0 (tCons (tVar 0) (tCons (tVar 1) tNil))) (gName 7))
  (tSeq (tIfS (tOr (tNot (tB (tCall (sp_law_leads K) [] E0 (tCons (tVar 7) (tCons (tVar 0) (tCons (tVar 1) tNil)))))) (tOr (tTest (tOp rNe (tCall (sp_law_pays K) [] E0 (tCons (tVar 7) tNil)) (tVar 5))) (tNot (tB (tCall (sp_law_shown K) [] E0 (tCons (tVar 0) (tCons (tVar 1) (tCons (tVar 7) (tCons (tVar 4) tNil))))))))) (tRet (tC (.bl false))) tNext)
  (tSeq (tAsg (tCall (sp_law_heaps K) [] E0 (tCons (tCall (sp_law_parted K) [] E0 (tCons (tVar 1) tNil)) (tCons (tCall (sp_law_parted K) [] E0 (tCons (tVar 0) tNil)) tNil))) (gName 8))
  (tSeq (tAsg (tCall (sp_back K) [] E0 (tCons (tVar 7) tNil)) (gName 9))
  (tRet (tAndV (tCall (sp_law_leads K) [] E0 (tCons (tVar 9) (tCons (tVar 1) (tCons (tVar 0) tNil)))) (tOp rIsB (tCall (sp_shows_cost K) [] E0 (tCons (tVar 1) (tCons (tVar 0) (tCons (tTup (tCons (tVar 9) (tCons (tVar 8) tNil))) tNil)))) (tC (.bl true))))))))))))))))
section
variable {P : Program} {w : World} {K : PySem.W.Frag} {mg : Str → Option Value} {base : Heap}
theorem w_law_both_ways (T : Txt w K mg) (cdv : Value) (A : Around) (outer : List Env) (s : Shared) (H : Hp) (E : XK) (hr : Room 7 (A.deeper (envOfC "_law_both_ways" (defScope s_law_both_ways) s.heap.objs.size (He.ga K "_law_both_ways") cdv))) :
    PSs (cxOf CX0 P w K mg base ["_law_row_here", "_law_goal", "_law_drawn", "_law_at", "_law_heaps_here", "_law_least", "_law_more", "_law_cheap", "_law_other", "_law_there"] "_law_both_ways" (defScope s_law_both_ways) (He.ga K "_law_both_ways") cdv A outer s H E).nox (defBody s_law_both_ways) (t_law_both_ways K) := by
  obtain ⟨⟨fd_law_parted, F_law_parted, b_law_parted⟩, k_law_parted⟩ := ok_law_parted (P := P) (base := base) T
  obtain ⟨⟨fd_law_heaps, F_law_heaps, b_law_heaps⟩, k_law_heaps⟩ := ok_law_heaps (P := P) (base := base) T
  obtain ⟨⟨fd_cost, F_cost, b_cost⟩, k_cost⟩ := ok_cost (P := P) (base := base) T
  obtain ⟨⟨fd_law_pays, F_law_pays, b_law_pays⟩, k_law_pays⟩ := ok_law_pays (P := P) (base := base) T
  obtain ⟨⟨fd_paid, F_paid, b_paid⟩, k_paid⟩ := ok_paid (P := P) (base := base) T
  obtain ⟨⟨fd_done, F_done, b_done⟩, k_done⟩ := ok_done (P := P) (base := base) T
  obtain ⟨⟨fd_law_shown, F_law_shown, b_law_shown⟩, k_law_shown⟩ := ok_law_shown (P := P) (base := base) T
  obtain ⟨⟨fd_law_part_one, F_law_part_one, b_law_part_one⟩, k_law_part_one⟩ := ok_law_part_one (P := P) (base := base) T
  obtain ⟨⟨fd_changes_of, F_changes_of, b_changes_of⟩, k_changes_of⟩ := ok_changes_of (P := P) (base := base) T
  obtain ⟨⟨fd_law_leads, F_law_leads, b_law_leads⟩, k_law_leads⟩ := ok_law_leads (P := P) (base := base) T
  obtain ⟨⟨fd_back, F_back, b_back⟩, k_back⟩ := ok_back (P := P) (base := base) T
  obtain ⟨⟨fd_shows_cost, F_shows_cost, b_shows_cost⟩, k_shows_cost⟩ := ok_shows_cost (P := P) (base := base) T
  exact (pss_cons (ps_set (i := 4) sc_law_both_ways.nd rfl (Or.inl rfl) (pe_call F_law_heaps (hr.mono (by decide)) (by exact rfl) T.g_law_heaps k_law_heaps b_law_heaps .nil pass0 (pa_cons (pe_call F_law_parted (hr.mono (by decide)) (by exact rfl) T.g_law_parted k_law_parted b_law_parted .nil pass0 (pa_cons (pv 0) pa_nil)) (pa_cons (pe_call F_law_parted (hr.mono (by decide)) (by exact rfl) T.g_law_parted k_law_parted b_law_parted .nil pass0 (pa_cons (pv 1) pa_nil)) pa_nil))))
  (pss_cons (ps_set (i := 5) sc_law_both_ways.nd rfl (Or.inl rfl) (pe_call F_cost (hr.mono (by decide)) (by exact rfl) T.g_cost k_cost b_cost .nil pass0 (pa_cons (pv 0) (pa_cons (pv 1) pa_nil))))
  (pss_cons (ps_if (PW.pt (pw_or (pt_not (pt_val (pe_callB call_isi (by exact rfl) T.n_isinstance (by decide +kernel) (pa_cons (pv 5) (pa_cons (pe_bltn (v := .ty "int") (by exact rfl) T.n_int (by decide +kernel) rfl) pa_nil))))) (pw_or (pt_val (pe_callB call_isi (by exact rfl) T.n_isinstance (by decide +kernel) (pa_cons (pv 5) (pa_cons (pe_bltn (v := .ty "bool") (by exact rfl) T.n_bool (by decide +kernel) rfl) pa_nil)))) (pw_or1 (pt_cmpR op_ne (pe_op op_add (pv 5) (pe_callB cl_lenL (by exact rfl) T.n_len PySem.boot_len (pa_cons (pv 4) pa_nil))) (pe_op op_add (pe_callB cl_lenS (by exact rfl) T.n_len PySem.boot_len (pa_cons (pv 0) pa_nil)) (pe_callB cl_lenS (by exact rfl) T.n_len PySem.boot_len (pa_cons (pv 1) pa_nil))) (nomark _)))))) (pss_one (ps_ret pe_bl)) pss_nil)
  (pss_cons (ps_if (PW.pt (pw_or (pt_cmpR op_gt (pv 5) (pe_call F_law_pays (hr.mono (by decide)) (by exact rfl) T.g_law_pays k_law_pays b_law_pays .nil pass0 (pa_cons (pv 2) pa_nil)) (nomark _)) (pw_or (pt_cmpR op_ne (pe_cmpR op_eq (pv 5) pe_int (nomark _)) (pe_cmpR op_eq (pv 0) (pv 1) (nomark _)) (nomark _)) (pw_or1 (pt_cmpR op_ne (pe_call F_cost (hr.mono (by decide)) (by exact rfl) T.g_cost k_cost b_cost .nil pass0 (pa_cons (pv 1) (pa_cons (pv 0) pa_nil))) (pv 5) (nomark _)))))) (pss_one (ps_ret pe_bl)) pss_nil)
  (pss_cons (ps_if (PW.pt (pw_or (pt_cmpR op_ne (pe_call F_paid (hr.mono (by decide)) (by exact rfl) T.g_paid k_paid b_paid .nil pass0 (pa_cons (pv 2) pa_nil)) (pe_call F_law_pays (hr.mono (by decide)) (by exact rfl) T.g_law_pays k_law_pays b_law_pays .nil pass0 (pa_cons (pv 2) pa_nil)) (nomark _)) (pw_or (pt_cmpR op_ne (pe_call F_done (hr.mono (by decide)) (by exact rfl) T.g_done k_done b_done .nil pass0 (pa_cons (pv 0) (pa_cons (pv 2) pa_nil))) (pv 1) (nomark _)) (pw_or1 (pt_not (pt_val (pe_call F_law_shown (hr.mono (by decide)) (by exact rfl) T.g_law_shown k_law_shown b_law_shown .nil pass0 (pa_cons (pv 0) (pa_cons (pv 1) (pa_cons (pv 2) (pa_cons (pv 4) pa_nil))))))))))) (pss_one (ps_ret pe_bl)) pss_nil)
  (pss_cons (ps_set (i := 6) sc_law_both_ways.nd rfl (Or.inl rfl) (pe_call F_law_part_one (hr.mono (by decide)) (by exact rfl) T.g_law_part_one k_law_part_one b_law_part_one .nil pass0 (pa_cons (pv 4) (pa_cons (pv 3) pa_nil))))
  (pss_cons (ps_if (PW.pt (pw_and (pt_cmpR op_notN1 (pv 6) pe_non (nomark _)) (pw_and1 (pt_not (pt_val (pe_call F_law_shown (hr.mono (by decide)) (by exact rfl) T.g_law_shown k_law_shown b_law_shown .nil pass0 (pa_cons (pv 0) (pa_cons (pv 1) (pa_cons (pv 2) (pa_cons (pv 6) pa_nil)))))))))) (pss_one (ps_ret pe_bl)) pss_nil)
  (pss_cons (ps_set (i := 7) sc_law_both_ways.nd rfl (Or.inl rfl) (pe_call F_changes_of (hr.mono (by decide)) (by exact rfl) T.g_changes_of k_changes_of b_changes_of .nil pass0 (pa_cons (pv 0) (pa_cons (pv 1) pa_nil))))
  (pss_cons (ps_if (PW.pt (pw_or (pt_not (pt_val (pe_call F_law_leads (hr.mono (by decide)) (by exact rfl) T.g_law_leads k_law_leads b_law_leads .nil pass0 (pa_cons (pv 7) (pa_cons (pv 0) (pa_cons (pv 1) pa_nil)))))) (pw_or (pt_cmpR op_ne (pe_call F_law_pays (hr.mono (by decide)) (by exact rfl) T.g_law_pays k_law_pays b_law_pays .nil pass0 (pa_cons (pv 7) pa_nil)) (pv 5) (nomark _)) (pw_or1 (pt_not (pt_val (pe_call F_law_shown (hr.mono (by decide)) (by exact rfl) T.g_law_shown k_law_shown b_law_shown .nil pass0 (pa_cons (pv 0) (pa_cons (pv 1) (pa_cons (pv 7) (pa_cons (pv 4) pa_nil))))))))))) (pss_one (ps_ret pe_bl)) pss_nil)
  (pss_cons (ps_set (i := 8) sc_law_both_ways.nd rfl (Or.inl rfl) (pe_call F_law_heaps (hr.mono (by decide)) (by exact rfl) T.g_law_heaps k_law_heaps b_law_heaps .nil pass0 (pa_cons (pe_call F_law_parted (hr.mono (by decide)) (by exact rfl) T.g_law_parted k_law_parted b_law_parted .nil pass0 (pa_cons (pv 1) pa_nil)) (pa_cons (pe_call F_law_parted (hr.mono (by decide)) (by exact rfl) T.g_law_parted k_law_parted b_law_parted .nil pass0 (pa_cons (pv 0) pa_nil)) pa_nil))))
  (pss_cons (ps_set (i := 9) sc_law_both_ways.nd rfl (Or.inl rfl) (pe_call F_back (hr.mono (by decide)) (by exact rfl) T.g_back k_back b_back .nil pass0 (pa_cons (pv 7) pa_nil)))
  (pss_one (ps_ret (pe_and (pe_call F_law_leads (hr.mono (by decide)) (by exact rfl) T.g_law_leads k_law_leads b_law_leads .nil pass0 (pa_cons (pv 9) (pa_cons (pv 1) (pa_cons (pv 0) pa_nil)))) (pe_one (pe_cmpR op_isBl (pe_call F_shows_cost (hr.mono (by decide)) (by exact rfl) T.g_shows_cost k_shows_cost b_shows_cost .nil pass0 (pa_cons (pv 1) (pa_cons (pv 0) (pa_cons (pe_tup (pa_cons (pv 9) (pa_cons (pv 8) pa_nil))) pa_nil)))) pe_bl (nomark _)))))))))))))))))
theorem r_law_both_ways (T : Txt w K mg) (vs : List V) (H : Hp) (Q : VK) (E : XK) (h : sp_law_both_ways K vs H Q E) : t_law_both_ways K { nx := fun _ H' => Q .non H', rt := Q } (start ["_law_row_here", "_law_goal", "_law_drawn", "_law_at", "_law_heaps_here", "_law_least", "_law_more", "_law_cheap", "_law_other", "_law_there"] vs) H := by
  obtain ⟨S, a, b, v, cs, n, rfl, eS, hv, hpa, hpb, hcs, ho, hnw, k⟩ := h
  have za := hpa.1
  have zb := hpb.1
  have zc := hcs.1
  obtain ⟨pv, vs, rfl, hpv, hA⟩ := (show ∃ p vs, v = .ref p ∧ S p = some (.lst vs) ∧ AtA S vs (cs.map eCh) from hv.chs_)
  have pay := cost_le cs
  rw [ho, hnw] at pay
  have la := part_length a
  have lb := part_length b
  have rA := (part_row hpa).1
  have rB := (part_row hpb).1
  have lcp := lc_part hpa hpb a.length b.length (Nat.le_refl _) (Nat.le_refl _)
  have lcq := lc_part hpb hpa b.length a.length (Nat.le_refl _) (Nat.le_refl _)
  have sym : ed b a b.length a.length = ed a b a.length b.length := ed_symm a b a.length b.length
  have hl := hps_len (part a) (part b)
  rw [la, lb] at hl
  have hl2 := hps_len (part b) (part a)
  rw [la, lb] at hl2
  have hok := hps_ok (part a) (part b)
  have hok2 := hps_ok (part b) (part a)
  -- the heaps
  refine x_setC (c_callM (cons_C (c_call (va_1 (val_var rfl)) ⟨a, rfl, by omega, fun H1 e1 => cons_C (c_call (va_1 (val_var rfl)) ⟨b, rfl, by omega, fun H2 e2 => ⟨S, part a, part b, rfl, (eS.trans e1).trans e2, rA, rB, fun S3 H3 vh g3 hvh => ?_⟩⟩)⟩)))
  have g0 : Gw S H S3 H3 := ((Gw.refl eS).any (e1.trans e2)).trans g3
  obtain ⟨ph, us, rfl, hph, hU⟩ := (show ∃ p us, vh = .ref p ∧ S3 p = some (.lst us) ∧ AtA S3 us ((hps (part a) (part b)).map ePrs) from hvh.lst_)
  have hul := hU.lenM
  have hv3 := hv.mono g3.s
  -- the cost
  refine x_setC (c_call (va_2 (val_var rfl) (val_var rfl)) ⟨a, b, rfl, hpa, hpb, fun H4 e4 => ?_⟩)
  have i4 := g3.i.trans e4
  have x4 := g0.h.trans e4
  refine x_no (Ans.to (ans_orW (Ans.to (ans_not (ans_val (val_isi (b := true) (val_var rfl) val_c (.ty _) (.base (.int _)) (kit_ty (by decide +kernel))))) rfl) fun _ => ans_orW (ans_val (val_isi (b := false) (val_var rfl) val_c (.ty _) (.base (.int _)) (kit_ty (by decide +kernel)))) fun _ => ans_te (val_ne (val_I0 (val_var rfl) (val_lenL (val_var rfl) (i4 _ _ hph))) (val_I0 (val_lenS (val_var rfl) (by omega)) (val_lenS (val_var rfl) (by omega))) rfl)) ?_) ?_
  · rw [hul, hl, decide_eq_true (by congr 1; omega)]; rfl
  -- the drawn changes pay it at least; nought for like rows; either way
  refine x_ifC (orT_C (op_C ((val_var rfl) _ (c_call (va_1 (val_var rfl)) ⟨S3, _, cs, rfl, i4, hv3, by omega, fun H5 e5 => ⟨_, _, rfl, rfl, ⟨_, rfl, iteE (decide_eq_false (by omega)) ?_⟩⟩⟩))))
  have i5 := i4.trans e5
  have x5 := x4.trans e5
  have zr := ed_zero hpa hpb
  refine or_f (Ans.to (ans_te (val_ne (val_eq (val_var rfl) val_c rfl) (val_eq (val_var rfl) (val_var rfl) rfl) rfl)) ?_) ?_
  · rw [tx_dec]
    have e : decide (V.int (ed a b a.length b.length : Nat) = V.int 0) = decide (a = b) := decide_eq_decide.mpr ⟨fun q => zr.mp (by have := V.int.inj q; omega), fun q => by rw [zr.mpr q]; rfl⟩
    rw [e]
    simp
  refine tst_C (op_C (c_call (va_2 (val_var rfl) (val_var rfl)) ⟨b, a, rfl, hpb, hpa, fun H6 e6 => (val_var rfl) _ ⟨rfl, ⟨_, rfl, iteE (by rw [sym]; simp) ?_⟩⟩⟩))
  have i6 := i5.trans e6
  have x6 := x5.trans e6
  -- paid, done, shown
  refine x_ifC (orT_C (op_C (c_call (va_1 (val_var rfl)) ⟨S3, _, cs, rfl, i6, hv3, hcs, fun H7 e7 => c_call (va_1 (val_var rfl)) ⟨S3, _, cs, rfl, i6.trans e7, hv3, by omega, fun H8 e8 => ⟨rfl, ⟨_, rfl, iteE (by simp) ?_⟩⟩⟩⟩)))
  have i8 := (i6.trans e7).trans e8
  have x8 := (x6.trans e7).trans e8
  refine orT_C (op_C (c_call (va_2 (val_var rfl) (val_var rfl)) ⟨S3, _, cs, by rw [ho], by rw [ho]; exact hpa, i8, hv3, hcs, fun H9 e9 => (val_var rfl) _ ⟨rfl, ⟨_, rfl, iteE (by rw [hnw]; simp) ?_⟩⟩⟩))
  have i9 := i8.trans e9
  have x9 := x8.trans e9
  refine notb_C (c_call (va_cons (val_var rfl) (va_3 (val_var rfl) (val_var rfl) (val_var rfl))) ⟨S3, a, b, _, _, cs, _, rfl, i9, hv3, hvh, hpa, hpb, hcs, ho, hnw, hok, by omega, fun H10 e10 => ⟨_, rfl, iteE rfl ?_⟩⟩)
  have i10 := i9.trans e10
  have x10 := x9.trans e10
  -- one pair in a heap of its own
  have rest : ∀ (m : V) (H' : Hp), Ex S3 H' → Ex H H' → tSeq (tAsg (tCall (sp_changes_of K) [] E0 (tCons (tVar 0) (tCons (tVar 1) tNil))) (gName 7))
      (tSeq (tIfS (tOr (tNot (tB (tCall (sp_law_leads K) [] E0 (tCons (tVar 7) (tCons (tVar 0) (tCons (tVar 1) tNil)))))) (tOr (tTest (tOp rNe (tCall (sp_law_pays K) [] E0 (tCons (tVar 7) tNil)) (tVar 5))) (tNot (tB (tCall (sp_law_shown K) [] E0 (tCons (tVar 0) (tCons (tVar 1) (tCons (tVar 7) (tCons (tVar 4) tNil))))))))) (tRet (tC (.bl false))) tNext)
      (tSeq (tAsg (tCall (sp_law_heaps K) [] E0 (tCons (tCall (sp_law_parted K) [] E0 (tCons (tVar 1) tNil)) (tCons (tCall (sp_law_parted K) [] E0 (tCons (tVar 0) tNil)) tNil))) (gName 8))
      (tSeq (tAsg (tCall (sp_back K) [] E0 (tCons (tVar 7) tNil)) (gName 9))
      (tRet (tAndV (tCall (sp_law_leads K) [] E0 (tCons (tVar 9) (tCons (tVar 1) (tCons (tVar 0) tNil)))) (tOp rIsB (tCall (sp_shows_cost K) [] E0 (tCons (tVar 1) (tCons (tVar 0) (tCons (tTup (tCons (tVar 9) (tCons (tVar 8) tNil))) tNil)))) (tC (.bl true)))))))) { nx := fun _ H' => Q .non H', rt := Q } [some (.str (tx a)), some (.str (tx b)), some (.ref pv), some (.int n), some (.ref ph), some (.int (ed a b a.length b.length : Nat)), some m, none, none, none] H' := fun m H' j1 j2 => by
    obtain ⟨c1, c2, c3, c4⟩ := chg_all hpa hpb
    refine x_setC (c_call (va_2 (val_var rfl) (val_var rfl)) ⟨S3, a, b, rfl, j1, hpa, hpb, fun S4 H4 vc g4 hvc => ?_⟩)
    have j4 := j2.trans g4.h
    have z4 := c4.1
    refine x_ifC (orN_C (c_call (va_3 (val_var rfl) (val_var rfl) (val_var rfl)) ⟨S4, vc, chg a b, by rw [c1, c2], g4.i, hvc, by omega, fun H5 e5 => ⟨_, rfl, iteE rfl ?_⟩⟩))
    have i5 := g4.i.trans e5
    have j5 := j4.trans e5
    refine orT_C (op_C (c_call (va_1 (val_var rfl)) ⟨S4, vc, chg a b, rfl, i5, hvc, by omega, fun H6 e6 => (val_var rfl) _ ⟨rfl, ⟨_, rfl, iteE (by rw [c3]; simp) ?_⟩⟩⟩))
    have i6 := i5.trans e6
    have j6 := j5.trans e6
    refine notb_C (c_call (va_cons (val_var rfl) (va_3 (val_var rfl) (val_var rfl) (val_var rfl))) ⟨S4, a, b, vc, _, chg a b, _, rfl, i6, hvc, hvh.mono g4.s, hpa, hpb, c4, c1, c2, hok, by omega, fun H7 e7 => ⟨_, rfl, iteE rfl ?_⟩⟩)
    have i7 := i6.trans e7
    have j7 := j6.trans e7
    refine x_setC (c_callM (cons_C (c_call (va_1 (val_var rfl)) ⟨b, rfl, by omega, fun H8 e8 => cons_C (c_call (va_1 (val_var rfl)) ⟨a, rfl, by omega, fun H9 e9 => ⟨S4, part b, part a, rfl, (i7.trans e8).trans e9, rB, rA, fun S5 H10 vo g5 hvo => ?_⟩⟩)⟩)))
    have j8 := ((j7.trans e8).trans e9).trans g5.h
    refine x_setC (c_call (va_1 (val_var rfl)) ⟨S5, vc, chg a b, rfl, g5.i, hvc.mono g5.s, c4, fun S6 H11 vb g6 hvb => ?_⟩)
    have j9 := j8.trans g6.h
    obtain ⟨b1, b2, b3⟩ := bk_all (chg a b)
    have b4 := bk_ok c4
    have z6 := b4.1
    rw [c2] at b1
    rw [c1] at b2
    refine x_retC ?_
    refine c_call (va_3 (val_var rfl) (val_var rfl) (val_var rfl)) ⟨S6, vb, (chg a b).map Ch.bk, by rw [b1, b2], g6.i, hvb, by omega, fun H12 e12 => ⟨true, rfl, ?_⟩⟩
    refine iteT (op_C (c_callM (cons_V (val_var rfl) (cons_V (val_var rfl) (cons_C (c_tup (va_2 (val_var rfl) (val_var rfl)) (by simp) fun u hu => ?_))))))
    have eu := Ex.new (o := .tup [vb, vo]) hu
    refine ⟨S6, b, a, u, vb, vo, (chg a b).map Ch.bk, hps (part b) (part a), rfl, (g6.i.trans e12).trans eu, upd_same, hvb, hvo.mono g6.s, hpb, hpa, b4, b1, b2, hok2, fun H13 e13 => ⟨_, true, rfl, rfl, ?_⟩⟩
    rw [b3, c3, decide_eq_true (show ed a b a.length b.length + (hps (part b) (part a)).length = b.length + a.length by omega)]
    exact k _ (((j9.trans e12).trans eu).trans e13)
  refine x_setC (c_call (va_2 (val_var rfl) (val_var rfl)) ⟨S3, part a, part b, _, _, n, rfl, i10, hvh, hok, rA, rB, fun H11 e11 => ?_, fun S4 H11 p4 hs' g4 a4 ok4 l4 => ?_⟩)
  · refine x_ifC (and_f (Ans.to (ans_te (fun Q q => (val_var rfl) _ ⟨rfl, q⟩)) rfl) ?_)
    exact iteE rfl (rest _ _ (i10.trans e11) (x10.trans e11))
  · have g5 := g4
    refine x_ifC (and_t (Ans.to (ans_te (fun Q q => (val_var rfl) _ ⟨rfl, q⟩)) rfl) ?_)
    refine notb_C (c_call (va_cons (val_var rfl) (va_3 (val_var rfl) (val_var rfl) (val_var rfl))) ⟨S4, a, b, _, _, cs, hs', rfl, g4.i, hv3.mono g4.s, a4, hpa, hpb, hcs, ho, hnw, ok4, by omega, fun H12 e12 => ⟨_, rfl, iteE rfl ?_⟩⟩)
    exact rest _ _ ((g4.s.trans g4.i).trans e12) ((x10.trans g4.h).trans e12)
theorem ok_law_both_ways (T : Txt w K mg) : Df P w K mg base 8 (He.ga K "_law_both_ways") ["_law_row_here", "_law_goal", "_law_drawn", "_law_at"] (sp_law_both_ways K) :=
  df_of T.f_law_both_ways sc_law_both_ways (fun _ _ _ _ _ _ us hl => match us, hl with | [_, _, _, _], _ => rfl) (fun vs H Q E h => by
    obtain ⟨S, a, b, v, cs, n, rfl, _⟩ := h
    rfl) (fun cdv A outer s H E hr => w_law_both_ways T cdv A outer s H E hr) (fun vs H Q E h => r_law_both_ways T vs H Q E h)
end
end Pk
namespace Pk
open PySem PySem.Spec
open PyProof.Rows L2
/-! ## after -/
theorem sc_after : FnScope ["one", "other", "found", "i", "j"] ["one", "other"] (defScope s_after) := ⟨rfl, rfl, rfl, by decide +kernel, rfl, by decide +kernel, by decide +kernel⟩
def sp_after (K : PySem.W.Frag) : Sp := fun vs H Q _ => ∃ (S : Hp) (v1 v2 : V) (c1 c2 : List Ch), vs = [v1, v2] ∧ Ex S H ∧ At S v1 (eChs c1) ∧ At S v2 (eChs c2) ∧ ChsOk c1 ∧ ChsOk c2 ∧ news c1 = olds c2 ∧ (aft c1 c2).length ≤ 48 ∧ ∀ S' H' v', Gw S H S' H' → At S' v' (eChs (aft c1 c2)) → Q v' H'
def t_after (K : PySem.W.Frag) : TS := (tSeq (tDrop (tCall (sp_need_changes K) [] E0 (tCons (tVar 0) tNil)))
  (tSeq (tDrop (tCall (sp_need_changes K) [] E0 (tCons (tVar 1) tNil)))
  (tSeq (tIfS (tTest (tOp rNe (tCall (sp_new_row K) [] E0 (tCons (tVar 0) tNil)) (tCall (sp_old_row K) [] E0 (tCons (tVar 1) tNil)))) tNever tNext)
  (tSeq (tAsg (tLst tNil) (gName 2))
  (tSeq (tAsg (tC (.int 0)) (gName 3))
  (tSeq (tAsg (tC (.int 0)) (gName 4))
  (tSeq (tWhile (tOr (tTest (tOp oLt (tVar 3) (tCB (cLenL K) (tCons (tVar 0) tNil)))) (tTest (tOp oLt (tVar 4) (tCB (cLenL K) (tCons (tVar 1) tNil))))) (tIfS (tAnd (tTest (tOp oLt (tVar 3) (tCB (cLenL K) (tCons (tVar 0) tNil)))) (tTest (tOp rEq (tCall (sp_new_of K) [] E0 (tCons (tOp (rIxL K) (tVar 0) (tVar 3)) tNil)) (tC (.str ""))))) (tSeq (tDrop (tBM K "list" rAppend (tVar 2) (tCons (tOp (rIxL K) (tVar 0) (tVar 3)) tNil)))
  (tAug 3 (tC (.int 1)) (ipI fun i j => i + j))) (tIfS (tAnd (tTest (tOp oLt (tVar 4) (tCB (cLenL K) (tCons (tVar 1) tNil)))) (tTest (tOp rEq (tCall (sp_old_of K) [] E0 (tCons (tOp (rIxL K) (tVar 1) (tVar 4)) tNil)) (tC (.str ""))))) (tSeq (tDrop (tBM K "list" rAppend (tVar 2) (tCons (tOp (rIxL K) (tVar 1) (tVar 4)) tNil)))
  (tAug 4 (tC (.int 1)) (ipI fun i j => i + j))) (tSeq (tDrop (tBM K "list" rExtend (tVar 2) (tCons (tCall (sp_come_to K) [] E0 (tCons (tCall (sp_old_of K) [] E0 (tCons (tOp (rIxL K) (tVar 0) (tVar 3)) tNil)) (tCons (tCall (sp_new_of K) [] E0 (tCons (tOp (rIxL K) (tVar 1) (tVar 4)) tNil)) tNil))) tNil)))
  (tSeq (tAug 3 (tC (.int 1)) (ipI fun i j => i + j))
  (tAug 4 (tC (.int 1)) (ipI fun i j => i + j)))))))
  (tSeq (tIfS (tTest (tOp oGt (tCB (cLenL K) (tCons (tVar 2) tNil)) (tC (.int 48)))) tNever tNext)
  (tRet (tVar 2))))))))))
section
variable {P : Program} {w : World} {K : PySem.W.Frag} {mg : Str → Option Value} {base : Heap}
theorem w_after (T : Txt w K mg) (cdv : Value) (A : Around) (outer : List Env) (s : Shared) (H : Hp) (E : XK) (hr : Room 4 (A.deeper (envOfC "after" (defScope s_after) s.heap.objs.size (He.ga K "after") cdv))) :
    PSs (cxOf CX0 P w K mg base ["one", "other", "found", "i", "j"] "after" (defScope s_after) (He.ga K "after") cdv A outer s H E).nox (defBody s_after) (t_after K) := by
  obtain ⟨⟨fd_need_changes, F_need_changes, b_need_changes⟩, k_need_changes⟩ := ok_need_changes (P := P) (base := base) T
  obtain ⟨⟨fd_new_row, F_new_row, b_new_row⟩, k_new_row⟩ := ok_new_row (P := P) (base := base) T
  obtain ⟨⟨fd_old_row, F_old_row, b_old_row⟩, k_old_row⟩ := ok_old_row (P := P) (base := base) T
  obtain ⟨⟨fd_new_of, F_new_of, b_new_of⟩, k_new_of⟩ := ok_new_of (P := P) (base := base) T
  obtain ⟨⟨fd_old_of, F_old_of, b_old_of⟩, k_old_of⟩ := ok_old_of (P := P) (base := base) T
  obtain ⟨⟨fd_come_to, F_come_to, b_come_to⟩, k_come_to⟩ := ok_come_to (P := P) (base := base) T
  obtain ⟨tk_MOST_CHANGES, hc_MOST_CHANGES⟩ := T.c_MOST_CHANGES
  exact (pss_cons (ps_expr (pe_call F_need_changes (hr.mono (by decide)) (by exact rfl) T.g_need_changes k_need_changes b_need_changes .nil pass0 (pa_cons (pv 0) pa_nil)))
  (pss_cons (ps_expr (pe_call F_need_changes (hr.mono (by decide)) (by exact rfl) T.g_need_changes k_need_changes b_need_changes .nil pass0 (pa_cons (pv 1) pa_nil)))
  (pss_cons (ps_if (pt_cmpR op_ne (pe_call F_new_row (hr.mono (by decide)) (by exact rfl) T.g_new_row k_new_row b_new_row .nil pass0 (pa_cons (pv 0) pa_nil)) (pe_call F_old_row (hr.mono (by decide)) (by exact rfl) T.g_old_row k_old_row b_old_row .nil pass0 (pa_cons (pv 1) pa_nil)) (nomark _)) (pss_one ps_never) pss_nil)
  (pss_cons (ps_set (i := 2) sc_after.nd rfl (Or.inl rfl) (pe_lst pa_nil))
  (pss_cons (ps_set (i := 3) sc_after.nd rfl (Or.inl rfl) pe_int)
  (pss_cons (ps_set (i := 4) sc_after.nd rfl (Or.inl rfl) pe_int)
  (pss_cons (ps_while PassesOwn.never (PW.pt (pw_or (pt_cmpR op_lt (pv 3) (pe_callB cl_lenL (by exact rfl) T.n_len PySem.boot_len (pa_cons (pv 0) pa_nil)) (nomark _)) (pw_or1 (pt_cmpR op_lt (pv 4) (pe_callB cl_lenL (by exact rfl) T.n_len PySem.boot_len (pa_cons (pv 1) pa_nil)) (nomark _))))) (pss_one (ps_if (PW.pt (pw_and (pt_cmpR op_lt (pv 3) (pe_callB cl_lenL (by exact rfl) T.n_len PySem.boot_len (pa_cons (pv 0) pa_nil)) (nomark _)) (pw_and1 (pt_cmpR op_eq (pe_call F_new_of (hr.mono (by decide)) (by exact rfl) T.g_new_of k_new_of b_new_of .nil pass0 (pa_cons (pe_ix ix_list (pv 0) (pv 3) (fun _ _ => rfl)) pa_nil)) pe_str (nomark _))))) (pss_cons (ps_expr (pe_bm PySem.F.plainAttrs_list PySem.F.slot_list_append PySem.F.type_list_append mt_append (pv 2) (pa_cons (pe_ix ix_list (pv 0) (pv 3) (fun _ _ => rfl)) pa_nil)))
  (pss_one (ps_aug (i := 3) sc_after.nd rfl (Or.inl rfl) pe_int ip_add))) (pss_one (ps_if (PW.pt (pw_and (pt_cmpR op_lt (pv 4) (pe_callB cl_lenL (by exact rfl) T.n_len PySem.boot_len (pa_cons (pv 1) pa_nil)) (nomark _)) (pw_and1 (pt_cmpR op_eq (pe_call F_old_of (hr.mono (by decide)) (by exact rfl) T.g_old_of k_old_of b_old_of .nil pass0 (pa_cons (pe_ix ix_list (pv 1) (pv 4) (fun _ _ => rfl)) pa_nil)) pe_str (nomark _))))) (pss_cons (ps_expr (pe_bm PySem.F.plainAttrs_list PySem.F.slot_list_append PySem.F.type_list_append mt_append (pv 2) (pa_cons (pe_ix ix_list (pv 1) (pv 4) (fun _ _ => rfl)) pa_nil)))
  (pss_one (ps_aug (i := 4) sc_after.nd rfl (Or.inl rfl) pe_int ip_add))) (pss_cons (ps_expr (pe_bm PySem.F.plainAttrs_list PySem.F.slot_list_extend PySem.F.type_list_extend mt_extend (pv 2) (pa_cons (pe_call F_come_to (hr.mono (by decide)) (by exact rfl) T.g_come_to k_come_to b_come_to .nil pass0 (pa_cons (pe_call F_old_of (hr.mono (by decide)) (by exact rfl) T.g_old_of k_old_of b_old_of .nil pass0 (pa_cons (pe_ix ix_list (pv 0) (pv 3) (fun _ _ => rfl)) pa_nil)) (pa_cons (pe_call F_new_of (hr.mono (by decide)) (by exact rfl) T.g_new_of k_new_of b_new_of .nil pass0 (pa_cons (pe_ix ix_list (pv 1) (pv 4) (fun _ _ => rfl)) pa_nil)) pa_nil))) pa_nil)))
  (pss_cons (ps_aug (i := 3) sc_after.nd rfl (Or.inl rfl) pe_int ip_add)
  (pss_one (ps_aug (i := 4) sc_after.nd rfl (Or.inl rfl) pe_int ip_add)))))))))
  (pss_cons (ps_if (pt_cmpR op_gt (pe_callB cl_lenL (by exact rfl) T.n_len PySem.boot_len (pa_cons (pv 2) pa_nil)) (pe_glob (v := .int 48) (by exact rfl) hc_MOST_CHANGES ⟨_, rfl⟩) (nomark _)) (pss_one ps_never) pss_nil)
  (pss_one (ps_ret (pv 2)))))))))))
theorem r_after (T : Txt w K mg) (vs : List V) (H : Hp) (Q : VK) (E : XK) (h : sp_after K vs H Q E) : t_after K { nx := fun _ H' => Q .non H', rt := Q } (start ["one", "other", "found", "i", "j"] vs) H := by
  obtain ⟨S, v1, v2, c1, c2, rfl, eS, hv1, hv2, hc1, hc2, hnw, hz, k⟩ := h
  have i1 := hv1
  have i2 := hv2
  obtain ⟨p1, vs1, rfl, hp1, hA1⟩ := i1.chs_
  obtain ⟨p2, vs2, rfl, hp2, hA2⟩ := i2.chs_
  have n1 := hA1.lenM
  have n2 := hA2.lenM
  refine x_dropC (c_call (va_1 (val_var rfl)) ⟨S, _, c1, rfl, eS, hv1, hc1, fun H1 e1 => ?_⟩)
  refine x_dropC (c_call (va_1 (val_var rfl)) ⟨S, _, c2, rfl, eS.trans e1, hv2, hc2, fun H2 e2 => ?_⟩)
  have m1 := hc1.1
  have m2 := hc2.1
  refine c_call (va_1 (val_var rfl)) ⟨S, _, c1, rfl, (eS.trans e1).trans e2, hv1, by omega, fun H3 e3 => ?_⟩
  refine c_call (va_1 (val_var rfl)) ⟨S, _, c2, rfl, ((eS.trans e1).trans e2).trans e3, hv2, by omega, fun H4 e4 => ⟨rfl, _, rfl, iteNS (by rw [hnw]) ?_⟩⟩
  have e5 := ((e1.trans e2).trans e3).trans e4
  refine x_setC (c_lst va_nil (by simp) fun l hl => ?_)
  have hl0 := e5.free hl
  refine x_set val_c (x_set val_c ?_)
  refine x_while (fun m σ' H' => ∃ (S' : Hp) (ws : List V) (acc : List Ch) (i j : Nat), σ' = [some (.ref p1), some (.ref p2), some (.ref l), some (.int (i : Int)), some (.int (j : Int))] ∧ Gw S H S' H' ∧ S' l = none ∧ H' l = some (.lst ws) ∧ AtA S' ws (acc.map eCh) ∧ acc ++ aft (c1.drop i) (c2.drop j) = aft c1 c2 ∧ news (c1.drop i) = olds (c2.drop j) ∧ i ≤ c1.length ∧ j ≤ c2.length ∧ m = (c1.length - i) + (c2.length - j)) (c1.length + c2.length) ⟨S, [], [], 0, 0, rfl, ((Gw.refl eS).any e5).mut hl, eS.free hl0, upd_same, .nil, rfl, hnw, Nat.zero_le _, Nat.zero_le _, rfl⟩ ?_
  rintro m σ' H' ⟨S', ws, acc, i, j, rfl, g, sl, hw, hA, hacc, hno, hi, hj, rfl⟩
  have hp1' := g.i _ _ (g.s _ _ hp1)
  have hp2' := g.i _ _ (g.s _ _ hp2)
  have hlen := hA.lenM
  have hle : acc.length ≤ 48 := by
    have := congrArg List.length hacc
    rw [List.length_append] at this
    omega
  have lt1 : Ans (tTest (tOp oLt (tVar 3) (tCB (cLenL K) (tCons (tVar 0) tNil)))) [some (.ref p1), some (.ref p2), some (.ref l), some (.int (i : Int)), some (.int (j : Int))] H' (decide (i < c1.length)) := Ans.to (ans_te (val_I0 (val_var rfl) (val_lenL (val_var rfl) hp1'))) (by rw [n1]; exact decide_eq_decide.mpr (by omega))
  have lt2 : Ans (tTest (tOp oLt (tVar 4) (tCB (cLenL K) (tCons (tVar 1) tNil)))) [some (.ref p1), some (.ref p2), some (.ref l), some (.int (i : Int)), some (.int (j : Int))] H' (decide (j < c2.length)) := Ans.to (ans_te (val_I0 (val_var rfl) (val_lenL (val_var rfl) hp2'))) (by rw [n2]; exact decide_eq_decide.mpr (by omega))
  refine ⟨_, ans_orW lt1 (fun _ => lt2), fun hb => ?_, fun hb => ?_⟩
  · refine ⟨fun σ2 H2 => ∃ m', m' < (c1.length - i) + (c2.length - j) ∧ ∃ (S' : Hp) (ws : List V) (acc : List Ch) (i j : Nat), σ2 = [some (.ref p1), some (.ref p2), some (.ref l), some (.int (i : Int)), some (.int (j : Int))] ∧ Gw S H S' H2 ∧ S' l = none ∧ H2 l = some (.lst ws) ∧ AtA S' ws (acc.map eCh) ∧ acc ++ aft (c1.drop i) (c2.drop j) = aft c1 c2 ∧ news (c1.drop i) = olds (c2.drop j) ∧ i ≤ c1.length ∧ j ≤ c2.length ∧ m' = (c1.length - i) + (c2.length - j), fun _ _ h => h, ?_⟩
    by_cases b1 : i < c1.length
    · -- the first has one more
      have dd1 : c1.drop i = c1[i] :: c1.drop (i + 1) := List.drop_eq_getElem_cons b1
      obtain ⟨x, hx, hat⟩ := hA1.getF (List.getElem?_eq_getElem b1)
      obtain ⟨q, rfl, hq⟩ := hat.ch_
      have hq' := g.i _ _ (g.s _ _ hq)
      have ix1 : Val (tOp (rIxL K) (tVar 0) (tVar 3)) [some (.ref p1), some (.ref p2), some (.ref l), some (.int (i : Int)), some (.int (j : Int))] H' (.ref q) := val_ixL (val_var rfl) (val_var rfl) hp1' (at_nat rfl hx)
      have t1 := ans_andW (u := tTest (tOp rEq (tCall (sp_new_of K) [] E0 (tCons (tOp (rIxL K) (tVar 0) (tVar 3)) tNil)) (tC (.str "")))) (b := decide (c1[i].nw = [])) lt1 fun _ => Ans.to (ans_te (val_eq (val_call (sp := sp_new_of K) (va_1 ix1) fun Q q0 => ⟨_, q, rfl, hq', q0⟩) val_emp rfl)) (tx_dec _ _)
      refine y_if t1 (fun hb => ?_) (fun hb => ?_)
      · have e0 : c1[i].nw = [] := by simpa [b1] using hb
        rw [dd1, aft_out _ _ e0] at hacc
        rw [dd1, news_cons, e0, List.nil_append] at hno
        refine x_app (val_var rfl) ix1 hw (by omega) (y_augI (f := fun i j => i + j) rfl val_c ?_)
        refine ⟨_, ?_, S', ws ++ [.ref q], acc ++ [c1[i]], i + 1, j, rfl, g.set hl0 sl, sl, upd_same, hA.snocM (hat.mono g.s), ?_, hno, by omega, hj, rfl⟩
        · omega
        · rw [List.append_assoc]; exact hacc
      · have e0 : c1[i].nw ≠ [] := by simpa [b1] using hb
        obtain ⟨y, hy⟩ := nw_one e0
        have b2 : j < c2.length := by
          apply Nat.lt_of_not_le
          intro z
          rw [dd1, List.drop_eq_nil_of_le z, news_cons, hy] at hno
          cases hno
        have dd2 : c2.drop j = c2[j] :: c2.drop (j + 1) := List.drop_eq_getElem_cons b2
        obtain ⟨x2, hx2, hat2⟩ := hA2.getF (List.getElem?_eq_getElem b2)
        obtain ⟨q2, rfl, hq2⟩ := hat2.ch_
        have hq2' := g.i _ _ (g.s _ _ hq2)
        have ix2 : Val (tOp (rIxL K) (tVar 1) (tVar 4)) [some (.ref p1), some (.ref p2), some (.ref l), some (.int (i : Int)), some (.int (j : Int))] H' (.ref q2) := val_ixL (val_var rfl) (val_var rfl) hp2' (at_nat rfl hx2)
        have t2 := ans_andW (u := tTest (tOp rEq (tCall (sp_old_of K) [] E0 (tCons (tOp (rIxL K) (tVar 1) (tVar 4)) tNil)) (tC (.str "")))) (b := decide (c2[j].ol = [])) lt2 fun _ => Ans.to (ans_te (val_eq (val_call (sp := sp_old_of K) (va_1 ix2) fun Q q0 => ⟨_, q2, rfl, hq2', q0⟩) val_emp rfl)) (tx_dec _ _)
        refine y_if t2 (fun hb => ?_) (fun hb => ?_)
        · have e2' : c2[j].ol = [] := by simpa [b2] using hb
          rw [dd1, dd2, aft_in _ _ e0 e2', ← dd1] at hacc
          rw [dd2, olds_cons, e2', List.nil_append] at hno
          refine x_app (val_var rfl) ix2 hw (by omega) (y_augI (f := fun i j => i + j) rfl val_c ?_)
          refine ⟨_, ?_, S', ws ++ [.ref q2], acc ++ [c2[j]], i, j + 1, rfl, g.set hl0 sl, sl, upd_same, hA.snocM (hat2.mono g.s), ?_, hno, hi, by omega, rfl⟩
          · omega
          · rw [List.append_assoc]; exact hacc
        · have e2' : c2[j].ol ≠ [] := by simpa [b2] using hb
          obtain ⟨y2, hy2⟩ := ol_one e2'
          rw [dd1, dd2, aft_both _ _ e0 e2'] at hacc
          rw [dd1, dd2, news_cons, olds_cons, hy, hy2] at hno
          injection hno with _ hno
          refine x_dropC ⟨_, rfl, .inl ⟨rfl, _, SqL.of hw⟩, ?_⟩
          refine c_call (va_2 (val_call (sp := sp_old_of K) (va_1 ix1) fun Q q0 => ⟨_, q, rfl, hq', q0⟩) (val_call (sp := sp_new_of K) (va_1 ix2) fun Q q0 => ⟨_, q2, rfl, hq2', q0⟩)) ⟨S', _, _, rfl, g.i, ol_len _, nw_len _, fun S2 H2 v2 g2 a2 => ?_⟩
          obtain ⟨b, zs, rfl, hb, hzs⟩ := a2.chs_
          have hzl := hzs.lenM
          have hcl : (comb c1[i].ol c2[j].nw).length ≤ 48 := by
            have := congrArg List.length hacc
            rw [List.length_append, List.length_append] at this
            omega
          refine ⟨l, b, ws, zs, rfl, rfl, g2.h _ _ hw, g2.i _ _ hb, small5 (by omega), ?_⟩
          refine x_augI (f := fun i j => i + j) rfl val_c (y_augI (f := fun i j => i + j) rfl val_c ?_)
          refine ⟨_, ?_, S2, ws ++ zs, acc ++ comb c1[i].ol c2[j].nw, i + 1, j + 1, rfl, (g.trans g2).set hl0 (g2.out hw sl), g2.out hw sl, upd_same, ?_, ?_, hno, by omega, by omega, rfl⟩
          · omega
          · rw [List.map_append]; exact (hA.mono g2.s).app hzs
          · rw [List.append_assoc]; exact hacc
    · have b2 : j < c2.length := by
        simp only [Bool.or_eq_true, decide_eq_true_eq] at hb
        omega
      have d1 : c1.drop i = [] := List.drop_eq_nil_of_le (by omega)
      have dd2 : c2.drop j = c2[j] :: c2.drop (j + 1) := List.drop_eq_getElem_cons b2
      obtain ⟨x2, hx2, hat2⟩ := hA2.getF (List.getElem?_eq_getElem b2)
      obtain ⟨q2, rfl, hq2⟩ := hat2.ch_
      have hq2' := g.i _ _ (g.s _ _ hq2)
      have ix2 : Val (tOp (rIxL K) (tVar 1) (tVar 4)) [some (.ref p1), some (.ref p2), some (.ref l), some (.int (i : Int)), some (.int (j : Int))] H' (.ref q2) := val_ixL (val_var rfl) (val_var rfl) hp2' (at_nat rfl hx2)
      have e2' : c2[j].ol = [] := by
        rw [d1, dd2, olds_cons] at hno
        exact (List.append_eq_nil_iff.mp hno.symm).1
      refine y_if (b := false) (Ans.to (ans_andW (u := tTest (tOp rEq (tCall (sp_new_of K) [] E0 (tCons (tOp (rIxL K) (tVar 0) (tVar 3)) tNil)) (tC (.str "")))) (b := false) lt1 fun z => absurd (of_decide_eq_true z) b1) (by simp)) (fun z => by cases z) (fun _ => ?_)
      have t2 := ans_andW (u := tTest (tOp rEq (tCall (sp_old_of K) [] E0 (tCons (tOp (rIxL K) (tVar 1) (tVar 4)) tNil)) (tC (.str "")))) (b := decide (c2[j].ol = [])) lt2 fun _ => Ans.to (ans_te (val_eq (val_call (sp := sp_old_of K) (va_1 ix2) fun Q q0 => ⟨_, q2, rfl, hq2', q0⟩) val_emp rfl)) (tx_dec _ _)
      refine y_if (b := true) (Ans.to t2 (by simp [b2, e2'])) (fun _ => ?_) (fun z => by cases z)
      rw [d1, aft_nil, dd2] at hacc
      rw [d1, dd2, olds_cons, e2', List.nil_append, ← d1] at hno
      refine x_app (val_var rfl) ix2 hw (by omega) (y_augI (f := fun i j => i + j) rfl val_c ?_)
      refine ⟨_, ?_, S', ws ++ [.ref q2], acc ++ [c2[j]], i, j + 1, rfl, g.set hl0 sl, sl, upd_same, hA.snocM (hat2.mono g.s), ?_, hno, hi, by omega, rfl⟩
      · omega
      · rw [d1, aft_nil, List.append_assoc]; exact hacc
  · have b1 : c1.length ≤ i ∧ c2.length ≤ j := by simpa using hb
    have d1 : c1.drop i = [] := List.drop_eq_nil_of_le b1.1
    have d2 : c2.drop j = [] := List.drop_eq_nil_of_le b1.2
    rw [d1, d2, aft_nil, List.append_nil] at hacc
    refine x_no (Ans.to (ans_te (val_I0 (val_lenL (val_var rfl) hw) val_c)) (decide_eq_false (by omega))) ?_
    refine x_ret (val_var rfl) (k _ _ _ (g.frz hl0 sl hw) ?_)
    rw [← hacc]
    exact .lst upd_same (hA.mono (Ex.new sl))
theorem ok_after (T : Txt w K mg) : Df P w K mg base 5 (He.ga K "after") ["one", "other"] (sp_after K) :=
  df_of T.f_after sc_after (fun _ _ _ _ _ _ us hl => match us, hl with | [_, _], _ => rfl) (fun vs H Q E h => by
    obtain ⟨S, v1, v2, c1, c2, rfl, _⟩ := h
    rfl) (fun cdv A outer s H E hr => w_after T cdv A outer s H E hr) (fun vs H Q E h => r_after T vs H Q E h)
end
end Pk
namespace Pk
open PySem PySem.Spec
open PyProof.Rows L2
open LamX NdefX
/-! ## led -/
theorem sc_led : FnScope ["many", "far", "crosses", "downs", "rights", "meetings", "signs", "row", "across", "met", "told", "column", "above", "goals", "goal", "line"] ["many", "far", "crosses"] (defScope s_led) := ⟨rfl, rfl, rfl, by decide +kernel, rfl, by decide +kernel, by decide +kernel⟩
def sp_led (ws : List (Option V)) (mk : Addr → NF) : Sp := fun vs H Q _ => ∃ (S : Hp) (a b : List Nat) (f c' : Addr), vs = [.int (a.length : Nat), .int (b.length : Nat), .ref f] ∧ ws = [some (.str (tx a)), some (.str (tx b))] ∧ H f = some (LmO f (mk c') lam_body) ∧ H (mk c').c = some (CodeO (mk c').c (mk c').qual) ∧ Ex S H ∧ a.length ≤ 48 ∧ b.length ≤ 48 ∧ ∀ S' H' t v1 v2 v3, Gw S H S' H' → H' t = some (.tup [v1, v2, v3]) → At S' v3 (eIL (natI (opp (fin a b)))) → Q (.ref t) H'
def t_led (K : PySem.W.Frag) (f : Addr) (F : NF) (ws : List (Option V)) : TS := (tSeq (tAsg (tLstRg (tRg2 (tVar 0) (tOp oAdd (tVar 0) (tVar 1)))) (gName 3))
  (tSeq (tAsg (tLst tNil) (gName 4))
  (tSeq (tAsg (tLst tNil) (gName 5))
  (tSeq (tAsg (tLst tNil) (gName 6))
  (tSeq (tFor (iRng1 (tCons (tVar 0) tNil)) (gName 7) (tSeq (tAsg (tOp oSub (tOp oSub (tVar 0) (tC (.int 1))) (tVar 7)) (gName 8))
  (tSeq (tAsg (tLst tNil) (gName 9))
  (tSeq (tAsg (tC (.str "")) (gName 10))
  (tSeq (tFor (iRng1 (tCons (tVar 1) tNil)) (gName 11) (tSeq (tAsg (tOp (rIxL K) (tVar 3) (tVar 11)) (gName 12))
  (tSeq (tDrop (tBM K "list" rAppend (tVar 9) (tCons (tTup (tCons (tVar 8) (tCons (tVar 12) tNil))) tNil)))
  (tIfS (tB (tCallLm f F lam_body 2 (sp_lam ws) (tCons (tVar 7) (tCons (tVar 11) (tCons (tVar 8) (tCons (tVar 12) tNil)))))) (tAug 10 (tC (.str "x")) oCatP) (tSeq (tAug 10 (tC (.str "o")) oCatP)
  (tSeq (tAsg (tVar 8) (gSub (tVar 3) (tVar 11) rSetL))
  (tAsg (tVar 12) (gName 8))))))))
  (tSeq (tDrop (tBM K "list" rAppend (tVar 5) (tCons (tVar 9) tNil)))
  (tSeq (tDrop (tBM K "list" rAppend (tVar 6) (tCons (tVar 10) tNil)))
  (tDrop (tBM K "list" rAppend (tVar 4) (tCons (tVar 8) tNil))))))))))
  (tSeq (tAsg (tOp rRep (tLst (tCons (tC (.int 0)) tNil)) (tOp oAdd (tVar 0) (tVar 1))) (gName 13))
  (tSeq (tFor (iEnum K (tCons (tOp rCat (tVar 3) (tRevL K (tVar 4))) tNil)) (gTup K 2 (gCons (gName 14) (gCons (gName 15) gNil))) (tAsg (tVar 14) (gSub (tVar 13) (tVar 15) rSetL)))
  (tRet (tTup (tCons (tVar 5) (tCons (tVar 6) (tCons (tVar 13) tNil))))))))))))
section
variable {P : Program} {w : World} {K : PySem.W.Frag} {mg : Str → Option Value} {base : Heap}
theorem w_led (T : Txt w K mg) (cdv : Value) (A : Around) (outer : List Env) (s : Shared) (H : Hp) (E : XK) (hr : Room 1 (A.deeper (envOfC "led" (defScope s_led) s.heap.objs.size (He.ga K "led") cdv))) (cl : List (Str × Addr)) (f c' : Addr) (F : NF) (hF : F = lamF cl c') (ws : List (Option V)) (Fn : LmOk P w K mg base 1 f F lam_body lam_ps lam_fr sp_lam) (C : CellsAt cl lam_fr ws s.heap H) (nf : ∀ y c, cl.lookup y = some c → c ∉ frs outer) :
    PSs (cxOf CX0 P w K mg base ["many", "far", "crosses", "downs", "rights", "meetings", "signs", "row", "across", "met", "told", "column", "above", "goals", "goal", "line"] "led" (defScope s_led) (He.ga K "led") cdv A outer s H E).nox (defBody s_led) (t_led K f F ws) := by
  subst hF
  exact (pss_cons (ps_set (i := 3) sc_led.nd rfl (Or.inl rfl) (pe_listRg rfl (by exact rfl) T.n_list (prg_2 (by exact rfl) T.n_range (pv 0) (pe_op op_add (pv 0) (pv 1)))))
  (pss_cons (ps_set (i := 4) sc_led.nd rfl (Or.inl rfl) (pe_lst pa_nil))
  (pss_cons (ps_set (i := 5) sc_led.nd rfl (Or.inl rfl) (pe_lst pa_nil))
  (pss_cons (ps_set (i := 6) sc_led.nd rfl (Or.inl rfl) (pe_lst pa_nil))
  (pss_cons (ps_for PassesOwn.never rfl (pi_range1 (by exact rfl) T.n_range (pa_cons (pv 0) pa_nil)) (pg_name (i := 7) sc_led.nd rfl (Or.inl rfl)) (pss_cons (ps_set (i := 8) sc_led.nd rfl (Or.inl rfl) (pe_op op_sub (pe_op op_sub (pv 0) pe_int) (pv 7)))
  (pss_cons (ps_set (i := 9) sc_led.nd rfl (Or.inl rfl) (pe_lst pa_nil))
  (pss_cons (ps_set (i := 10) sc_led.nd rfl (Or.inl rfl) pe_str)
  (pss_cons (ps_for PassesOwn.never rfl (pi_range1 (by exact rfl) T.n_range (pa_cons (pv 1) pa_nil)) (pg_name (i := 11) sc_led.nd rfl (Or.inl rfl)) (pss_cons (ps_set (i := 12) sc_led.nd rfl (Or.inl rfl) (pe_ix ix_list (pv 3) (pv 11) (fun _ _ => rfl)))
  (pss_cons (ps_expr (pe_bm PySem.F.plainAttrs_list PySem.F.slot_list_append PySem.F.type_list_append mt_append (pv 9) (pa_cons (pe_tup (pa_cons (pv 8) (pa_cons (pv 12) pa_nil))) pa_nil)))
  (pss_one (ps_if (pt_val (pe_callLm Fn C nf rfl hr (by decide) (by exact rfl) (Or.inl rfl) (pa_cons (pv 7) (pa_cons (pv 11) (pa_cons (pv 8) (pa_cons (pv 12) pa_nil)))))) (pss_one (ps_aug (i := 10) sc_led.nd rfl (Or.inl rfl) pe_str ip_addS)) (pss_cons (ps_aug (i := 10) sc_led.nd rfl (Or.inl rfl) pe_str ip_addS)
  (pss_cons (ps_asg (pv 8) (pg_sub (pv 3) (pv 11) set_list))
  (pss_one (ps_set (i := 8) sc_led.nd rfl (Or.inl rfl) (pv 12))))))))))
  (pss_cons (ps_expr (pe_bm PySem.F.plainAttrs_list PySem.F.slot_list_append PySem.F.type_list_append mt_append (pv 5) (pa_cons (pv 9) pa_nil)))
  (pss_cons (ps_expr (pe_bm PySem.F.plainAttrs_list PySem.F.slot_list_append PySem.F.type_list_append mt_append (pv 6) (pa_cons (pv 10) pa_nil)))
  (pss_one (ps_expr (pe_bm PySem.F.plainAttrs_list PySem.F.slot_list_append PySem.F.type_list_append mt_append (pv 4) (pa_cons (pv 8) pa_nil)))))))))))
  (pss_cons (ps_set (i := 13) sc_led.nd rfl (Or.inl rfl) (pe_op op_rep (pe_lst (pa_cons pe_int pa_nil)) (pe_op op_add (pv 0) (pv 1))))
  (pss_cons (ps_for PassesOwn.never rfl (pi_enum (by exact rfl) T.n_enumerate (pa_cons (pe_op op_cat (pv 3) (pe_revL (pv 4))) pa_nil)) (pg_tup rfl (pgs_cons (pg_name (i := 14) sc_led.nd rfl (Or.inl rfl)) (pgs_cons (pg_name (i := 15) sc_led.nd rfl (Or.inl rfl)) pgs_nil))) (pss_one (ps_asg (pv 14) (pg_sub (pv 13) (pv 15) set_list))))
  (pss_one (ps_ret (pe_tup (pa_cons (pv 5) (pa_cons (pv 6) (pa_cons (pv 13) pa_nil)))))))))))))
theorem rg_nat (m n : Nat) : rgV (m : Int) ((m : Int) + (n : Int)) = natV (List.range' m n) := by
  unfold rgV natV
  rw [show ((m : Int) + (n : Int) - (m : Int)).toNat = n by omega]
  apply List.ext_getElem?
  intro i
  by_cases h : i < n
  · rw [rm_get h, List.getElem?_map, List.getElem?_range' h]
    show _ = some (V.int _)
    congr 2
    omega
  · rw [List.getElem?_eq_none (by simpa using h), List.getElem?_eq_none (by simpa using h)]
theorem natV_at {l : List Nat} {z : Int} {i : Nat} (e : z = (i : Int)) (h : i < l.length) : atI (natV l) z = some (V.int (l.getD i 0 : Nat)) := by
  refine at_nat e (natV_get ?_)
  rw [List.getD_eq_getElem?_getD, List.getElem?_eq_getElem h]
  rfl
theorem natV_set (l : List Nat) (i x : Nat) : (natV l).set i (V.int (x : Nat)) = natV (l.set i x) := by
  unfold natV
  rw [List.map_set]
theorem natV_snoc (l : List Nat) (x : Nat) : natV l ++ [V.int (x : Nat)] = natV (l ++ [x]) := by
  unfold natV
  rw [List.map_append]
  rfl
theorem natV_rev (l : List Nat) : (natV l).reverse = natV l.reverse := by
  unfold natV
  rw [List.map_reverse]
theorem natV_app (l k : List Nat) : natV l ++ natV k = natV (l ++ k) := by
  unfold natV
  rw [List.map_append]
theorem r_led (ws : List (Option V)) (mk : Addr → NF) (vs : List V) (H : Hp) (Q : VK) (h : sp_led ws mk vs H Q E0) : ∃ f c', t_led K f (mk c') ws { nx := fun _ H' => Q .non H', rt := Q } (start ["many", "far", "crosses", "downs", "rights", "meetings", "signs", "row", "across", "met", "told", "column", "above", "goals", "goal", "line"] vs) H := by
  obtain ⟨S, a, b, f, c', rfl, hws, hf, hc, eS, za, zb, k⟩ := h
  refine ⟨f, c', ?_⟩
  have x_tx : ("x" : Str) = tx [120] := by decide +kernel
  have o_tx : ("o" : Str) = tx [111] := by decide +kernel
  refine x_setC ⟨_, rfl, (val_I0 (val_var rfl) (val_var rfl)) _ ⟨_, _, rfl, rfl, RgOk.of_le (by omega) (by omega) (by omega) (by omega), fun pd hpd => ?_⟩⟩
  rw [rg_nat]
  have g1 := (Gw.refl eS).mut (o := .lst (natV (List.range' a.length b.length))) hpd
  refine x_setC (c_lst va_nil (by simp) fun pr hpr => ?_)
  have g2 := g1.mut (o := .lst []) hpr
  have drd : pd ≠ pr := fun z => by rw [← z, upd_same] at hpr; cases hpr
  refine x_setC (c_lst va_nil (by simp) fun pm hpm => ?_)
  have g3 := g2.mut (o := .lst []) hpm
  have drm : pr ≠ pm := fun z => by rw [← z, upd_same] at hpm; cases hpm
  have ddm : pd ≠ pm := fun z => by rw [← z, upd_ne drd, upd_same] at hpm; cases hpm
  refine x_setC (c_lst va_nil (by simp) fun ps hps => ?_)
  have g4 := g3.mut (o := .lst []) hps
  have dms : pm ≠ ps := fun z => by rw [← z, upd_same] at hps; cases hps
  have drs : pr ≠ ps := fun z => by rw [← z, upd_ne drm, upd_same] at hps; cases hps
  have dds : pd ≠ ps := fun z => by rw [← z, upd_ne ddm, upd_ne drd, upd_same] at hps; cases hps
  have hd0 := hpd
  have hr0 := g1.free hpr
  have hm0 := g2.free hpm
  have hs0 := g3.free hps
  refine x_forR (n := a.length) (val_var rfl) (by omega) (fun r σ' H' => ∃ (ms ss : List V) (z7 z8 z9 z10 z11 z12 z13 z14 z15 : Option V), σ' = [some (.int (a.length : Nat)), some (.int (b.length : Nat)), some (.ref f), some (.ref pd), some (.ref pr), some (.ref pm), some (.ref ps), z7, z8, z9, z10, z11, z12, z13, z14, z15] ∧ Gw S H S H' ∧ H' pd = some (.lst (natV (brd a b r).1)) ∧ H' pr = some (.lst (natV (brd a b r).2)) ∧ H' pm = some (.lst ms) ∧ H' ps = some (.lst ss) ∧ ms.length = r ∧ ss.length = r)
    ⟨[], [], none, none, none, none, none, none, none, none, none, rfl, g4, by rw [upd_ne dds, upd_ne ddm, upd_ne drd, upd_same]; rfl, by rw [upd_ne drs, upd_ne drm, upd_same]; rfl, by rw [upd_ne dms, upd_same], upd_same, rfl, rfl⟩ ?_ ?_
  · rintro r σ' H' hr ⟨ms, ss, z7, z8, z9, z10, z11, z12, z13, z14, z15, rfl, g, hD, hR, hM, hS, lm, ls⟩
    refine x_set (v := .int ((a.length - 1 - r : Nat) : Int)) (val_is (val_I0 (val_I0 (val_var rfl) val_c) (val_var rfl)) (by congr 1; omega)) ?_
    refine x_setC (c_lst va_nil (by simp) fun q hq => ?_)
    have gq := g.mut (o := .lst []) hq
    have q0 := g.free hq
    have qd : q ≠ pd := fun z => by rw [z, hD] at hq; cases hq
    have qr : q ≠ pr := fun z => by rw [z, hR] at hq; cases hq
    have qm : q ≠ pm := fun z => by rw [z, hM] at hq; cases hq
    have qs : q ≠ ps := fun z => by rw [z, hS] at hq; cases hq
    refine x_set (v := .str (tx [])) val_emp ?_
    refine x_forR (n := b.length) (val_var rfl) (by omega) (fun j σ' H' => ∃ (us : List V) (tl : List Nat) (z11 z12 : Option V), σ' = [some (.int (a.length : Nat)), some (.int (b.length : Nat)), some (.ref f), some (.ref pd), some (.ref pr), some (.ref pm), some (.ref ps), some (.int (r : Nat)), some (.int ((rowL b (a.getD r 0) (brd a b r).1 (a.length - 1 - r) j).2 : Nat)), some (.ref q), some (.str (tx tl)), z11, z12, z13, z14, z15] ∧ Gw S H S H' ∧ H' pd = some (.lst (natV (rowL b (a.getD r 0) (brd a b r).1 (a.length - 1 - r) j).1)) ∧ H' pr = some (.lst (natV (brd a b r).2)) ∧ H' pm = some (.lst ms) ∧ H' ps = some (.lst ss) ∧ H' q = some (.lst us) ∧ us.length = j ∧ tl.length = j)
      ⟨[], [], z11, z12, rfl, gq, by rw [upd_ne qd.symm]; exact hD, by rw [upd_ne qr.symm]; exact hR, by rw [upd_ne qm.symm]; exact hM, by rw [upd_ne qs.symm]; exact hS, upd_same, rfl, rfl⟩ ?_ ?_
    · rintro j σ' H' hj ⟨us, tl, y11, y12, rfl, g, hD, hR, hM, hS, hU, lu, lt⟩
      have hl := rowL_len b (a.getD r 0) (brd a b r).1 (a.length - 1 - r) j
      rw [(brd_len a b r).1] at hl
      have st : rowL b (a.getD r 0) (brd a b r).1 (a.length - 1 - r) (j + 1) = cel (rowL b (a.getD r 0) (brd a b r).1 (a.length - 1 - r) j) (decide (a.getD r 0 ≠ b.getD j 0)) j := rfl
      rw [st]
      generalize rowL b (a.getD r 0) (brd a b r).1 (a.length - 1 - r) j = s at hD hl
      refine x_set (val_ixL (val_var rfl) (val_var rfl) hD (natV_at rfl (by omega))) ?_
      refine x_dropC ⟨_, rfl, .inl ⟨rfl, _, SqL.of hU⟩, ?_⟩
      refine c_tup (va_2 (val_var rfl) (val_var rfl)) (by simp) fun u hu => ?_
      have gu := g.mut (o := .tup [.int (s.2 : Nat), .int (s.1.getD j 0 : Nat)]) hu
      refine ⟨q, us, _, rfl, rfl, upd_get hU hu, small6 (by omega), ?_⟩
      have g5 := gu.set (o := .lst (us ++ [.ref u])) q0 (eS.free q0)
      have hD5 : upd (upd H' u (.tup [.int (s.2 : Nat), .int (s.1.getD j 0 : Nat)])) q (.lst (us ++ [.ref u])) pd = some (.lst (natV s.1)) := by rw [upd_ne qd.symm]; exact upd_get hD hu
      have hR5 : upd (upd H' u (.tup [.int (s.2 : Nat), .int (s.1.getD j 0 : Nat)])) q (.lst (us ++ [.ref u])) pr = some (.lst (natV (brd a b r).2)) := by rw [upd_ne qr.symm]; exact upd_get hR hu
      have hM5 : upd (upd H' u (.tup [.int (s.2 : Nat), .int (s.1.getD j 0 : Nat)])) q (.lst (us ++ [.ref u])) pm = some (.lst ms) := by rw [upd_ne qm.symm]; exact upd_get hM hu
      have hS5 : upd (upd H' u (.tup [.int (s.2 : Nat), .int (s.1.getD j 0 : Nat)])) q (.lst (us ++ [.ref u])) ps = some (.lst ss) := by rw [upd_ne qs.symm]; exact upd_get hS hu
      have hU5 : upd (upd H' u (.tup [.int (s.2 : Nat), .int (s.1.getD j 0 : Nat)])) q (.lst (us ++ [.ref u])) q = some (.lst (us ++ [.ref u])) := upd_same
      generalize upd (upd H' u (.tup [.int (s.2 : Nat), .int (s.1.getD j 0 : Nat)])) q (.lst (us ++ [.ref u])) = H5 at g5 hD5 hR5 hM5 hS5 hU5
      have hlu : (us ++ [V.ref u]).length = j + 1 := by rw [List.length_append, lu]; rfl
      refine y_if (b := decide (a.getD r 0 ≠ b.getD j 0) && decide (s.2 < s.1.getD j 0)) (ans_val fun Q q1 => ⟨rfl, g5.h _ _ hf, (va_cons (val_var rfl) (va_3 (val_var rfl) (val_var rfl) (val_var rfl))) _ ⟨g5.h _ _ hf, g5.h _ _ hc, a, b, r, j, s.2, s.1.getD j 0, hws, rfl, hr, hj, by omega, by omega, q1⟩⟩) (fun hb => ?_) (fun hb => ?_)
      · have ec : cel s (decide (a.getD r 0 ≠ b.getD j 0)) j = s := if_pos hb
        rw [ec]
        refine y_augS (b := [120]) rfl (val_is val_c (by rw [x_tx])) (by simp only [List.length_cons, List.length_nil]; omega) ?_
        exact ⟨_, tl ++ [120], _, _, rfl, g5, hD5, hR5, hM5, hS5, hU5, hlu, by rw [List.length_append, lt]; rfl⟩
      · have ec : cel s (decide (a.getD r 0 ≠ b.getD j 0)) j = (s.1.set j s.2, s.1.getD j 0) := if_neg (by rw [hb]; decide)
        rw [ec]
        refine x_augS (b := [111]) rfl (val_is val_c (by rw [o_tx])) (by simp only [List.length_cons, List.length_nil]; omega) ?_
        refine x_setT ⟨_, rfl, _, rfl, _, rfl, pd, _, _, j, rfl, rfl, hD5, ixN_n (by rw [natV_len]; omega), ?_⟩
        rw [natV_set]
        refine y_set (val_var rfl) ⟨_, tl ++ [111], _, _, rfl, g5.set hd0 (eS.free hd0), upd_same, by rw [upd_ne drd.symm]; exact hR5, by rw [upd_ne ddm.symm]; exact hM5, by rw [upd_ne dds.symm]; exact hS5, by rw [upd_ne qd]; exact hU5, hlu, by rw [List.length_append, lt]; rfl⟩
    · rintro σ' H' ⟨us, tl, y11, y12, rfl, g, hD, hR, hM, hS, hU, lu, lt⟩
      refine x_app (val_var rfl) (val_var rfl) hM (by omega) ?_
      have g6 := g.set (o := .lst (ms ++ [.ref q])) hm0 (eS.free hm0)
      refine x_app (xs := ss) (val_var rfl) (val_var rfl) (by rw [upd_ne dms.symm]; exact hS) (by omega) ?_
      have g7 := g6.set (o := .lst (ss ++ [.str (tx tl)])) hs0 (eS.free hs0)
      refine y_app (xs := natV (brd a b r).2) (val_var rfl) (val_var rfl) (by rw [upd_ne drs, upd_ne drm]; exact hR) (by rw [natV_len, (brd_len a b r).2]; omega) ?_
      have g8 := g7.set (o := .lst (natV (brd a b r).2 ++ [.int ((rowL b (a.getD r 0) (brd a b r).1 (a.length - 1 - r) b.length).2 : Nat)])) hr0 (eS.free hr0)
      refine ⟨ms ++ [.ref q], ss ++ [.str (tx tl)], _, _, _, _, _, _, _, _, _, rfl, g8, ?_, ?_, ?_, ?_, by rw [List.length_append, lm]; rfl, by rw [List.length_append, ls]; rfl⟩
      · rw [upd_ne drd, upd_ne dds, upd_ne ddm]; exact hD
      · rw [upd_same, natV_snoc]; rfl
      · rw [upd_ne drm.symm, upd_ne dms, upd_same]
      · rw [upd_ne drs.symm, upd_same]
  · rintro σ' H' ⟨ms, ss, z7, z8, z9, z10, z11, z12, z13, z14, z15, rfl, g, hD, hR, hM, hS, lm, ls⟩
    have hN : (fin a b).length = a.length + b.length := fin_len a b
    have htn := fin_turn za zb
    refine x_setC ⟨one_sz, fun t ht => (val_I0 (val_var rfl) (val_var rfl)) _ ⟨t, _, _, rfl, rfl, upd_same, by omega, by omega, ?_, fun l hl => ?_⟩⟩
    · exact small5 (by simp only [List.length_cons, List.length_nil]; omega)
    have e0 : (List.replicate ((a.length : Int) + (b.length : Int)).toNat [V.int 0]).flatten = oppV (fin a b) 0 := by
      rw [oppV_0, hN, show ((a.length : Int) + (b.length : Int)).toNat = a.length + b.length by omega]; simp
    rw [e0]
    have gt := g.mut (o := .lst [.int 0]) ht
    have hl0 := gt.free hl
    have gl := gt.mut (o := .lst (oppV (fin a b) 0)) hl
    have hDl := upd_get (o := .lst (oppV (fin a b) 0)) (upd_get (o := .lst [.int 0]) hD ht) hl
    have hRl := upd_get (o := .lst (oppV (fin a b) 0)) (upd_get (o := .lst [.int 0]) hR ht) hl
    have hll : upd (upd H' t (.lst [.int 0])) l (.lst (oppV (fin a b) 0)) l = some (.lst (oppV (fin a b) 0)) := upd_same
    generalize upd (upd H' t (.lst [.int 0])) l (.lst (oppV (fin a b) 0)) = H1 at gl hDl hRl hll
    have hl1 := (brd_len a b a.length).1
    have hl2 := (brd_len a b a.length).2
    refine x_doC ⟨_, rfl, _, rfl, pr, _, rfl, SqL.of hRl, fun p1 hp1 => ?_⟩
    have gp := gl.mut (o := .lst (natV (brd a b a.length).2).reverse) hp1
    refine ⟨pd, p1, _, _, rfl, rfl, upd_get hDl hp1, upd_same, small5 (by rw [List.length_reverse, natV_len, natV_len]; omega), fun p2 hp2 => ?_⟩
    have gp2 := gp.put (o := .lst (natV (fin a b))) hp2
    have efin : natV (brd a b a.length).1 ++ (natV (brd a b a.length).2).reverse = natV (fin a b) := by rw [natV_rev, natV_app]; rfl
    rw [efin]
    have hp0 := gp.free hp2
    have hll2 := upd_get (o := .lst (natV (fin a b))) (upd_get (o := .lst (natV (brd a b a.length).2).reverse) hll hp1) hp2
    have k2 : upd S p2 (.lst (natV (fin a b))) p2 = some (.lst (natV (fin a b))) := upd_same
    have k3 : upd S p2 (.lst (natV (fin a b))) l = none := by
      rw [upd_ne (fun z => by rw [← z, upd_get hll hp1] at hp2; cases hp2)]; exact eS.free hl0
    generalize upd S p2 (.lst (natV (fin a b))) = S2 at gp2 k2 k3
    generalize upd (upd H1 p1 (.lst (natV (brd a b a.length).2).reverse)) p2 (.lst (natV (fin a b))) = H2 at gp2 hll2
    refine ⟨p2, natV (fin a b), rfl, SqL.of (gp2.i _ _ k2), ?_⟩
    refine for_it (walk_enum (K := K) (a := p2) (xs := natV (fin a b))) (fun n σ' H' => ∃ (z14 z15 : Option V), σ' = [some (.int (a.length : Nat)), some (.int (b.length : Nat)), some (.ref f), some (.ref pd), some (.ref pr), some (.ref pm), some (.ref ps), z7, z8, z9, z10, z11, z12, some (.ref l), z14, z15] ∧ Gw S H S2 H' ∧ H' l = some (.lst (oppV (fin a b) n))) ⟨z14, z15, rfl, gp2, hll2⟩ (fun n σ' H' _ ⟨z14, z15, _, g, _⟩ => SqL.of (g.i _ _ k2)) (fun n y σ' H1 H3 hk hP hy => ?_) (fun σ' H' hP => ?_)
    · obtain ⟨y14, y15, rfl, g9, hw⟩ := hP
      obtain ⟨T0, u, y2, rfl, hT, rfl, e1, e2⟩ := hy
      cases e1
      have e2 : (natV (fin a b))[n]? = some y2 := e2
      unfold natV at e2
      rw [List.getElem?_map] at e2
      obtain ⟨x, hx, rfl⟩ := Option.map_eq_some_iff.mp e2
      have hxl := htn.lt (List.mem_of_getElem? hx)
      refine ⟨T0, _, rfl, SqT.of upd_same, rfl, _, _, rfl, _, _, rfl, rfl, ?_⟩
      refine ⟨_, rfl, _, rfl, _, rfl, l, _, _, x, rfl, rfl, upd_get hw hT, ixN_n (by rw [oppV_len]; exact hxl), _, _, rfl, (g9.mut hT).set hl0 k3, ?_⟩
      rw [upd_same, htn.oppV_step hx]
    · obtain ⟨y14, y15, rfl, g9, hw⟩ := hP
      rw [natV_len, htn.oppV_end] at hw
      have gf := g9.frz hl0 k3 hw
      refine x_retC (c_tup (va_3 (val_var rfl) (val_var rfl) (val_var rfl)) (by simp) fun u hu => ?_)
      exact k _ _ u _ _ _ (gf.mut hu) upd_same (At.nat upd_same)
theorem len_led (ws : List (Option V)) (mk : Addr → NF) (vs : List V) (H : Hp) (Q : VK) (E : XK) (h : sp_led ws mk vs H Q E) : vs.length = (["many", "far", "crosses"] : List Str).length := by
  obtain ⟨S, a, b, f, c', rfl, _⟩ := h
  rfl
theorem ok_led (T : Txt w K mg) : (∃ fd, GvOk P w K mg base 2 (He.ga K "led") fd ["many", "far", "crosses"] lamF lam_body lam_fr sp_led ∧ Binds K fd ["many", "far", "crosses"] []) ∧ PySem.W.keepIn K (.ref (He.ga K "led")) = true := by
  obtain ⟨fd, F⟩ := T.f_led
  refine ⟨⟨fd, gvok_of F sc_led len_led fun cdv A outer s H vs ws cl Q hr C nf h => ?_, F.bindsN (fun _ _ _ _ _ _ us hl => match us, hl with | [_, _, _], _ => rfl)⟩, F.kp⟩
  obtain ⟨f, c', ht⟩ := r_led (K := K) ws (lamF cl) vs H Q h
  exact ⟨_, (w_led T cdv A outer s H E0 hr cl f c' _ rfl ws (ok_lam cl f c') C nf).nox, ht⟩
end
end Pk
namespace Pk
open PySem PySem.Spec
open PyProof.Rows L2
open LamX NdefX
/-! ## Board.__init__ -/
theorem sc_Board_init : FnScope ["self", "side", "top", "rule", "meetings", "signs", "goals"] ["self", "side", "top"] (defScope s_Board_init) := ⟨rfl, rfl, rfl, by decide +kernel, rfl, by decide +kernel, by decide +kernel⟩
def sp_Board_init (K : PySem.W.Frag) : Sp := fun vs H Q _ => ∃ (H0 : Hp) (q dx : Addr) (a b : List Nat), vs = [.ref q, .str (tx a), .str (tx b)] ∧ Gw (fun _ => none) (offT H0) (fun _ => none) H ∧ H0 q = none ∧ H q = some (.ins (He.ga K "Board") dx []) ∧ TabS H (bT K).2 lam_q ∧ RowP a ∧ RowP b ∧ ∀ S' H', Gw (fun _ => none) (offT H0) S' H' → ObB K S' q (opp (fin a b)) → Q .non H'
def t_Board_init (K : PySem.W.Frag) (cl : List (Str × Addr)) : TS := (tSeq (tDrop (tCall (sp_need_rows K) [] E0 (tCons (tVar 1) (tCons (tVar 2) tNil))))
  (tSeq (sFld K (tVar 0) (tVar 1) "left_row")
  (tSeq (sFld K (tVar 0) (tVar 2) "upper_row")
  (tSeq (tAsg (tLam3 (bT K).2 (lamF cl) lam_body) (gName 3))
  (tSeq (tAsg (tCallGv sp_led (lamF cl) [1, 2] (tCons (tCB cLenS (tCons (tVar 1) tNil)) (tCons (tCB cLenS (tCons (tVar 2) tNil)) (tCons (tVar 3) tNil)))) (gTup K 3 (gCons (gName 4) (gCons (gName 5) (gCons (gName 6) gNil)))))
  (tSeq (sFld K (tVar 0) (tVar 4) "meetings")
  (tSeq (sFld K (tVar 0) (tVar 5) "signs")
  (sFld K (tVar 0) (tVar 6) "goals"))))))))
section
variable {P : Program} {w : World} {K : PySem.W.Frag} {mg : Str → Option Value} {base : Heap}
theorem w_Board_init (T : Txt w K mg) (TB : TabB base mg (bT K).1 (bT K).2) (cdv : Value) (A : Around) (outer : List Env) (s : Shared) (H : Hp) (E : XK) (hr : Room 3 (A.deeper (envOfC "Board.__init__" (defScope s_Board_init) s.heap.objs.size (He.ma K (He.ga K "Board") "__init__") cdv))) (hcd : cdv = .ref (bT K).1) :
    PSs (cxOf CX0 P w K mg base ["self", "side", "top", "rule", "meetings", "signs", "goals"] "Board.__init__" (defScope s_Board_init) (He.ma K (He.ga K "Board") "__init__") cdv A outer s H E).nox (defBody s_Board_init) (t_Board_init K (cloFrom (cellsFrom (s.heap.objs.size + 1) (defScope s_Board_init).names []) lam_scope.names [])) := by
  obtain ⟨⟨fd_need_rows, F_need_rows, b_need_rows⟩, k_need_rows⟩ := ok_need_rows (P := P) (base := base) T
  obtain ⟨⟨fd_led, F_led, b_led⟩, k_led⟩ := ok_led (P := P) (base := base) T
  exact (pss_cons (ps_expr (pe_call F_need_rows (hr.mono (by decide)) (by exact rfl) T.g_need_rows k_need_rows b_need_rows .nil pass0 (pa_cons (pv 1) (pa_cons (pv 2) pa_nil))))
  (pss_cons (ps_fld (pv 0) (pv 1) rfl)
  (pss_cons (ps_fld (pv 0) (pv 2) rfl)
  (pss_cons (ps_set (i := 3) sc_Board_init.nd rfl (Or.inl rfl) (pe_lam3 TB hcd rfl (ndef_free lam_nd)))
  (pss_cons (ps_asg (pe_callGv F_led (fun ok => Caps.made ok (ndef_free lam_nd) (ndef_fr lam_nd) rfl) (fun _ => rfl) (hr.mono (by decide)) (Nat.le_refl _) (by exact rfl) T.g_led k_led b_led len_led (pa_cons (pe_callB cl_lenS (by exact rfl) T.n_len PySem.boot_len (pa_cons (pv 1) pa_nil)) (pa_cons (pe_callB cl_lenS (by exact rfl) T.n_len PySem.boot_len (pa_cons (pv 2) pa_nil)) (pa_cons (pv 3) pa_nil)))) (pg_tup rfl (pgs_cons (pg_name (i := 4) sc_Board_init.nd rfl (Or.inl rfl)) (pgs_cons (pg_name (i := 5) sc_Board_init.nd rfl (Or.inl rfl)) (pgs_cons (pg_name (i := 6) sc_Board_init.nd rfl (Or.inl rfl)) pgs_nil)))))
  (pss_cons (ps_fld (pv 0) (pv 4) rfl)
  (pss_cons (ps_fld (pv 0) (pv 5) rfl)
  (pss_one (ps_fld (pv 0) (pv 6) rfl)))))))))
theorem r_Board_init (T : Txt w K mg) (cl : List (Str × Addr)) (vs : List V) (H : Hp) (Q : VK) (E : XK) (h : sp_Board_init K vs H Q E) : t_Board_init K cl { nx := fun _ H' => Q .non H', rt := Q } (start ["self", "side", "top", "rule", "meetings", "signs", "goals"] vs) H := by
  obtain ⟨H0, q, dx, a, b, rfl, g0, h0, hq, htb, hra, hrb, k⟩ := h
  have za := hra.1
  have zb := hrb.1
  have C := T.cl_Board
  have o0 := offT_none h0
  refine x_dropC (c_call (va_2 (val_var rfl) (val_var rfl)) ⟨a, b, rfl, hra, hrb, fun H1 e1 => ?_⟩)
  have g1 := g0.any e1
  have t1 : TabS H1 (bT K).2 lam_q := htb.ext e1
  refine x_doC (st_fld (val_var rfl) (val_var rfl) (e1 _ _ hq) C T.na_Board_left_row (by decide) ?_)
  have g2 := g1.set (o := .ins (He.ga K "Board") dx (putF "left_row" (.str (tx a)) [])) o0 rfl
  have t2 := tab_upd (o := .ins (He.ga K "Board") dx (putF "left_row" (.str (tx a)) [])) t1 (e1 _ _ hq)
  have q2 : upd H1 q (.ins (He.ga K "Board") dx (putF "left_row" (.str (tx a)) [])) q = some (.ins (He.ga K "Board") dx (putF "left_row" (.str (tx a)) [])) := upd_same
  generalize upd H1 q (.ins (He.ga K "Board") dx (putF "left_row" (.str (tx a)) [])) = H2 at g2 t2 q2
  refine x_doC (st_fld (val_var rfl) (val_var rfl) q2 C T.na_Board_upper_row (by show 1 < 1000; decide) ?_)
  have g3 := g2.set (o := .ins (He.ga K "Board") dx (putF "upper_row" (.str (tx b)) (putF "left_row" (.str (tx a)) []))) o0 rfl
  have t3 := tab_upd (o := .ins (He.ga K "Board") dx (putF "upper_row" (.str (tx b)) (putF "left_row" (.str (tx a)) []))) t2 q2
  have q3 : upd H2 q (.ins (He.ga K "Board") dx (putF "upper_row" (.str (tx b)) (putF "left_row" (.str (tx a)) []))) q = some (.ins (He.ga K "Board") dx (putF "upper_row" (.str (tx b)) (putF "left_row" (.str (tx a)) []))) := upd_same
  generalize upd H2 q (.ins (He.ga K "Board") dx (putF "upper_row" (.str (tx b)) (putF "left_row" (.str (tx a)) []))) = H3 at g3 t3 q3
  refine x_setC (te := tLam3 (bT K).2 (lamF cl) lam_body) ⟨⟨0, t3⟩, fun f c' H4 m => ?_⟩
  have g4 := m.gw g3
  have q4 := m.ext _ _ q3 (fun ps z => by cases z)
  refine x_setT (c_gv (va_3 (val_lenS (val_var rfl) (by omega)) (val_lenS (val_var rfl) (by omega)) (val_var rfl)) ⟨fun _ => none, a, b, f, c', rfl, rfl, m.fn, m.code, (fun _ _ z => by cases z), za, zb, fun S5 H5 t v1 v2 v3 g5 ht5 at5 => ?_⟩)
  refine ⟨t, _, rfl, SqT.of ht5, rfl, _, _, rfl, _, _, rfl, _, _, rfl, rfl, ?_⟩
  have g6 := g4.trans g5
  have sq5 := g5.out q4 rfl
  have q5 := g5.h _ _ q4
  refine x_doC (st_fld (val_var rfl) (val_var rfl) q5 C T.na_Board_meetings (by show 2 < 1000; decide) ?_)
  have g7 := g6.set (o := .ins (He.ga K "Board") dx (putF "meetings" v1 (putF "upper_row" (.str (tx b)) (putF "left_row" (.str (tx a)) [])))) o0 sq5
  refine x_doC (st_fld (val_var rfl) (val_var rfl) upd_same C T.na_Board_signs (by show 3 < 1000; decide) ?_)
  have g8 := g7.set (o := .ins (He.ga K "Board") dx (putF "signs" v2 (putF "meetings" v1 (putF "upper_row" (.str (tx b)) (putF "left_row" (.str (tx a)) []))))) o0 sq5
  refine st_fld (val_var rfl) (val_var rfl) upd_same C T.na_Board_goals (by show 4 < 1000; decide) ?_
  have g9 := (g8.set (o := .ins (He.ga K "Board") dx (boF (.str (tx a)) (.str (tx b)) v1 v2 v3)) o0 sq5).frz o0 sq5 upd_same
  exact k _ _ g9 ⟨dx, _, _, _, _, _, upd_same, at5.mono (Ex.new sq5)⟩
theorem ok_Board_init (T : Txt w K mg) (TB : TabB base mg (bT K).1 (bT K).2) : Df P w K mg base 4 (He.ma K (He.ga K "Board") "__init__") ["self", "side", "top"] (sp_Board_init K) := by
  obtain ⟨fd, F⟩ := T.f_Board_init
  have kp := F.kp
  have hbn : Binds K fd ["self", "side", "top"] [] := F.bindsN (fun _ _ _ _ _ _ us hl => match us, hl with | [_, _, _], _ => rfl)
  obtain ⟨oc, od, dV, kV, doc, pm, an, cdv, ct, osl, rfl, lk, hcd, _, _⟩ := F.ex
  refine ⟨⟨_, fn_of lk hcd sc_Board_init (fun vs H Q E h => by
    obtain ⟨H0, q, dx, a, b, rfl, _⟩ := h
    rfl) (fun A outer s H vs Q E hr h => ⟨_, (w_Board_init T TB cdv A outer s H E hr ?_).nox, r_Board_init T _ vs H Q E h⟩), hbn⟩, kp⟩
  obtain ⟨c, e⟩ := He.codeIn_ref hcd
  rw [e]
  exact congrArg Value.ref (He.codeOf_eq (p := ("Board", some "__init__")) lk e).symm
end
end Pk
namespace Pk
open PySem PySem.Spec
open PyProof.Rows L2
/-! ## Board.lines -/
theorem sc_Board_lines : FnScope ["self"] ["self"] (defScope s_Board_lines) := ⟨rfl, rfl, rfl, by decide +kernel, rfl, by decide +kernel, by decide +kernel⟩
def sp_Board_lines (K : PySem.W.Frag) : Sp := fun vs H Q _ => ∃ (S : Hp) (q : Addr) (ls : List Nat), vs = [.ref q] ∧ Ex S H ∧ ObB K S q ls ∧ ∀ S' H' v', Gw S H S' H' → At S' v' (eIL (natI ls)) → Q v' H'
def t_Board_lines (K : PySem.W.Frag) : TS := (tRet (tCB (cListOf K) (tCons (tFld K (tVar 0) "goals") tNil)))
section
variable {P : Program} {w : World} {K : PySem.W.Frag} {mg : Str → Option Value} {base : Heap}
theorem w_Board_lines (T : Txt w K mg) (cdv : Value) (A : Around) (outer : List Env) (s : Shared) (H : Hp) (E : XK) (hr : Room 0 (A.deeper (envOfC "Board.lines" (defScope s_Board_lines) s.heap.objs.size (He.ma K (He.ga K "Board") "lines") cdv))) :
    PSs (cxOf CX0 P w K mg base ["self"] "Board.lines" (defScope s_Board_lines) (He.ma K (He.ga K "Board") "lines") cdv A outer s H E).nox (defBody s_Board_lines) (t_Board_lines K) := by
  exact (pss_one (ps_ret (pe_callTy cl_listOf (by exact rfl) T.n_list (by decide +kernel) (pa_cons (pe_fld (pv 0) rfl) pa_nil))))
theorem r_Board_lines (T : Txt w K mg) (vs : List V) (H : Hp) (Q : VK) (E : XK) (h : sp_Board_lines K vs H Q E) : t_Board_lines K { nx := fun _ H' => Q .non H', rt := Q } (start ["self"] vs) H := by
  obtain ⟨S, q, ls, rfl, eS, ⟨dx, s, t, m, g, v, hq, hv⟩, k⟩ := h
  obtain ⟨p, rfl, hp⟩ := hv.nat_
  refine x_retC (c_cb (va_1 (val_fld (val_var rfl) (eS _ _ hq) T.cl_Board T.na_Board_goals (bo_goals _ _ _ _ _))) ⟨p, _, rfl, .inl (SqL.of (eS _ _ hp)), fun l hl => ?_⟩)
  exact k _ _ _ ((Gw.refl eS).put hl) (At.nat upd_same)
theorem ok_Board_lines (T : Txt w K mg) : Df P w K mg base 1 (He.ma K (He.ga K "Board") "lines") ["self"] (sp_Board_lines K) :=
  df_of T.f_Board_lines sc_Board_lines (fun _ _ _ _ _ _ us hl => match us, hl with | [_], _ => rfl) (fun vs H Q E h => by
    obtain ⟨S, q, ls, rfl, _⟩ := h
    rfl) (fun cdv A outer s H E hr => w_Board_lines T cdv A outer s H E hr) (fun vs H Q E h => r_Board_lines T vs H Q E h)
end
end Pk
namespace Pk
open PySem PySem.Spec
open PyProof.Rows L2
/-! ## is_turning -/
theorem sc_is_turning : FnScope ["thing", "seen", "goal"] ["thing"] (defScope s_is_turning) := ⟨rfl, rfl, rfl, by decide +kernel, rfl, by decide +kernel, by decide +kernel⟩
def sp_is_turning (K : PySem.W.Frag) : Sp := fun vs H Q _ => ∃ (p : Addr) (ls : List Nat), vs = [.ref p] ∧ H p = some (.lst (natV ls)) ∧ Turn ls ∧ ∀ H', Ex H H' → Q (.bl true) H'
def t_is_turning (K : PySem.W.Frag) : TS := (tSeq (tIfS (tOr (tNot (tB (tCB (rIsiT K) (tCons (tVar 0) (tCons (tTup (tCons (tC (.ty "list")) (tCons (tC (.ty "tuple")) tNil))) tNil))))) (tTest (tOp oGt (tCB (cLenL K) (tCons (tVar 0) tNil)) (tC (.int 96))))) (tRet (tC (.bl false))) tNext)
  (tSeq (tAsg (tOp rRep (tLst (tCons (tC (.bl false)) tNil)) (tCB (cLenL K) (tCons (tVar 0) tNil))) (gName 1))
  (tSeq (tFor (iList K (tVar 0)) (gName 2) (tSeq (tIfS (tOr (tNot (tB (tCall (sp_is_within K) [] E0 (tCons (tVar 2) (tCons (tC (.int 0)) (tCons (tOp oSub (tCB (cLenL K) (tCons (tVar 0) tNil)) (tC (.int 1))) tNil)))))) (tB (tOp (rIxL K) (tVar 1) (tVar 2)))) (tRet (tC (.bl false))) tNext)
  (tAsg (tC (.bl true)) (gSub (tVar 1) (tVar 2) rSetL))))
  (tRet (tC (.bl true))))))
section
variable {P : Program} {w : World} {K : PySem.W.Frag} {mg : Str → Option Value} {base : Heap}
theorem w_is_turning (T : Txt w K mg) (cdv : Value) (A : Around) (outer : List Env) (s : Shared) (H : Hp) (E : XK) (hr : Room 2 (A.deeper (envOfC "is_turning" (defScope s_is_turning) s.heap.objs.size (He.ga K "is_turning") cdv))) :
    PSs (cxOf CX0 P w K mg base ["thing", "seen", "goal"] "is_turning" (defScope s_is_turning) (He.ga K "is_turning") cdv A outer s H E).nox (defBody s_is_turning) (t_is_turning K) := by
  obtain ⟨⟨fd_is_within, F_is_within, b_is_within⟩, k_is_within⟩ := ok_is_within (P := P) (base := base) T
  obtain ⟨tk_MOST_LINES, hc_MOST_LINES⟩ := T.c_MOST_LINES
  exact (pss_cons (ps_if (PW.pt (pw_or (pt_not (pt_val (pe_callB call_isiT (by exact rfl) T.n_isinstance (by decide +kernel) (pa_cons (pv 0) (pa_cons (pe_tup (pa_cons (pe_bltn (v := .ty "list") (by exact rfl) T.n_list (by decide +kernel) rfl) (pa_cons (pe_bltn (v := .ty "tuple") (by exact rfl) T.n_tuple (by decide +kernel) rfl) pa_nil))) pa_nil))))) (pw_or1 (pt_cmpR op_gt (pe_callB cl_lenL (by exact rfl) T.n_len PySem.boot_len (pa_cons (pv 0) pa_nil)) (pe_glob (v := .int 96) (by exact rfl) hc_MOST_LINES ⟨_, rfl⟩) (nomark _))))) (pss_one (ps_ret pe_bl)) pss_nil)
  (pss_cons (ps_set (i := 1) sc_is_turning.nd rfl (Or.inl rfl) (pe_op op_rep (pe_lst (pa_cons pe_bl pa_nil)) (pe_callB cl_lenL (by exact rfl) T.n_len PySem.boot_len (pa_cons (pv 0) pa_nil))))
  (pss_cons (ps_for PassesOwn.never rfl (pi_list (pv 0)) (pg_name (i := 2) sc_is_turning.nd rfl (Or.inl rfl)) (pss_cons (ps_if (PW.pt (pw_or (pt_not (pt_val (pe_call F_is_within (hr.mono (by decide)) (by exact rfl) T.g_is_within k_is_within b_is_within .nil pass0 (pa_cons (pv 2) (pa_cons pe_int (pa_cons (pe_op op_sub (pe_callB cl_lenL (by exact rfl) T.n_len PySem.boot_len (pa_cons (pv 0) pa_nil)) pe_int) pa_nil)))))) (pw_or1 (pt_val (pe_ix ix_list (pv 1) (pv 2) (fun _ _ => rfl)))))) (pss_one (ps_ret pe_bl)) pss_nil)
  (pss_one (ps_asg pe_bl (pg_sub (pv 1) (pv 2) set_list)))))
  (pss_one (ps_ret pe_bl)))))
theorem r_is_turning (T : Txt w K mg) (vs : List V) (H : Hp) (Q : VK) (E : XK) (h : sp_is_turning K vs H Q E) : t_is_turning K { nx := fun _ H' => Q .non H', rt := Q } (start ["thing", "seen", "goal"] vs) H := by
  obtain ⟨p, ls, rfl, hp, ht, k⟩ := h
  have zl := ht.1
  refine x_ifC ⟨_, rfl, by show 2 ≤ sizeLine; decide, fun u hu => ?_⟩
  have e1 := Ex.new (o := .tup [.ty "list", .ty "tuple"]) hu
  have hp1 := e1 _ _ hp
  refine ⟨.ref p, u, _, .type "list", _, true, rfl, upd_same, .cons (.ty _) (.cons (.ty _) .nil), .base (.lst hp1), kitAny_cons (b := true) (kit_ty (by decide +kernel)) (fun z => by cases z) (fun _ => rfl), ?_⟩
  refine ⟨true, rfl, ?_⟩
  generalize upd H u (.tup [.ty "list", .ty "tuple"]) = H1 at e1 hp1 ⊢
  have hlen := natV_len ls
  have t1 : Ans (tTest (tOp oGt (tCB (cLenL K) (tCons (tVar 0) tNil)) (tC (.int 96)))) [some (.ref p), none, none] H1 false := Ans.to (ans_te (val_I0 (val_lenL (val_var rfl) hp1) val_c)) (decide_eq_false (by omega))
  refine t1 _ (iteE rfl ?_)
  refine x_setC ⟨by show 1 ≤ sizeLine; decide, fun t ht1 => (val_lenL (xs := natV ls) (val_var rfl) (upd_get hp1 ht1)) _ ⟨t, _, _, rfl, rfl, upd_same, by omega, by rw [natV_len]; omega, ?_, fun l hl => ?_⟩⟩
  · rw [natV_len, Int.toNat_natCast]; exact small5 (by simp only [List.length_cons, List.length_nil]; omega)
  have e0 : (List.replicate (((natV ls).length : Nat) : Int).toNat [V.bl false]).flatten = seenV ls 0 := by
    rw [natV_len, Int.toNat_natCast, seenV_0]; simp
  rw [e0]
  have e2 := e1.trans (Ex.new (o := .lst [.bl false]) ht1)
  have hl0 := e2.free hl
  have hlp : l ≠ p := fun z => by rw [z, e2 _ _ hp] at hl; cases hl
  refine x_forL (K := K) (a := p) (xs := natV ls) (val_var rfl) (SqL.of ((e2.trans (Ex.new hl)) _ _ hp)) (fun n σ' H' => ∃ (z2 : Option V), σ' = [some (.ref p), some (.ref l), z2] ∧ Ex H H' ∧ H' l = some (.lst (seenV ls n))) ⟨none, rfl, e2.trans (Ex.new hl), upd_same⟩ (fun n σ' H' ⟨z2, _, e, _⟩ => SqL.of (e _ _ hp)) ?_ ?_
  · rintro n y σ' H' hy ⟨z2, rfl, e, hs⟩
    unfold natV at hy
    rw [List.getElem?_map] at hy
    obtain ⟨g, hg, rfl⟩ := Option.map_eq_some_iff.mp hy
    have hgl := ht.lt (List.mem_of_getElem? hg)
    refine x_no (Ans.to (ans_orW (a := false) (b := false) (Ans.to (ans_not (ans_val (val_call (sp := sp_is_within K) (va_3 (val_var rfl) val_c (val_I0 (val_lenL (xs := natV ls) (val_var rfl) (e _ _ hp)) val_c)) fun Q q0 => ⟨_, _, _, rfl, q0⟩))) ?_) (fun _ => ans_val (val_ixL (val_var rfl) (val_var rfl) hs (at_nat rfl (ht.seenV_get hg))))) rfl) ?_
    · rw [natV_len, decide_eq_true (show (0 : Int) ≤ ((g : Nat) : Int) by omega), decide_eq_true (show ((g : Nat) : Int) ≤ (ls.length : Int) - 1 by omega)]; rfl
    · refine (val_c : Val (tC (.bl true)) _ _ _) _ ⟨_, rfl, _, rfl, l, _, _, g, rfl, rfl, hs, ixN_n (by rw [seenV_len]; exact hgl), _, rfl, ?_, ?_⟩
      · exact fun a o ha => by rw [upd_ne (ne_of_none ha hl0)]; exact e _ _ ha
      · rw [upd_same, ht.seenV_step hg]
  · rintro σ' H' ⟨z2, rfl, e, _⟩
    exact k _ e
theorem ok_is_turning (T : Txt w K mg) : Df P w K mg base 3 (He.ga K "is_turning") ["thing"] (sp_is_turning K) :=
  df_of T.f_is_turning sc_is_turning (fun _ _ _ _ _ _ us hl => match us, hl with | [_], _ => rfl) (fun vs H Q E h => by
    obtain ⟨p, ls, rfl, _⟩ := h
    rfl) (fun cdv A outer s H E hr => w_is_turning T cdv A outer s H E hr) (fun vs H Q E h => r_is_turning T vs H Q E h)
end
end Pk
namespace Pk
open PySem PySem.Spec
open PyProof.Rows L2
/-! ## need_turning -/
theorem sc_need_turning : FnScope ["turning"] ["turning"] (defScope s_need_turning) := ⟨rfl, rfl, rfl, by decide +kernel, rfl, by decide +kernel, by decide +kernel⟩
def sp_need_turning (K : PySem.W.Frag) : Sp := fun vs H Q _ => ∃ (p : Addr) (ls : List Nat), vs = [.ref p] ∧ H p = some (.lst (natV ls)) ∧ Turn ls ∧ ∀ H', Ex H H' → Q (.non) H'
def t_need_turning (K : PySem.W.Frag) : TS := (tIfS (tNot (tB (tCall (sp_is_turning K) [] E0 (tCons (tVar 0) tNil)))) tNever tNext)
section
variable {P : Program} {w : World} {K : PySem.W.Frag} {mg : Str → Option Value} {base : Heap}
theorem w_need_turning (T : Txt w K mg) (cdv : Value) (A : Around) (outer : List Env) (s : Shared) (H : Hp) (E : XK) (hr : Room 3 (A.deeper (envOfC "need_turning" (defScope s_need_turning) s.heap.objs.size (He.ga K "need_turning") cdv))) :
    PSs (cxOf CX0 P w K mg base ["turning"] "need_turning" (defScope s_need_turning) (He.ga K "need_turning") cdv A outer s H E).nox (defBody s_need_turning) (t_need_turning K) := by
  obtain ⟨⟨fd_is_turning, F_is_turning, b_is_turning⟩, k_is_turning⟩ := ok_is_turning (P := P) (base := base) T
  exact (pss_one (ps_if (pt_not (pt_val (pe_call F_is_turning (hr.mono (by decide)) (by exact rfl) T.g_is_turning k_is_turning b_is_turning .nil pass0 (pa_cons (pv 0) pa_nil)))) (pss_one ps_never) pss_nil))
theorem r_need_turning (T : Txt w K mg) (vs : List V) (H : Hp) (Q : VK) (E : XK) (h : sp_need_turning K vs H Q E) : t_need_turning K { nx := fun _ H' => Q .non H', rt := Q } (start ["turning"] vs) H := by
  obtain ⟨p, ls, rfl, hp, ht, k⟩ := h
  exact ⟨_, rfl, p, ls, rfl, hp, ht, fun H' e => ⟨true, rfl, k H' e⟩⟩
theorem ok_need_turning (T : Txt w K mg) : Df P w K mg base 4 (He.ga K "need_turning") ["turning"] (sp_need_turning K) :=
  df_of T.f_need_turning sc_need_turning (fun _ _ _ _ _ _ us hl => match us, hl with | [_], _ => rfl) (fun vs H Q E h => by
    obtain ⟨p, ls, rfl, _⟩ := h
    rfl) (fun cdv A outer s H E hr => w_need_turning T cdv A outer s H E hr) (fun vs H Q E h => r_need_turning T vs H Q E h)
end
end Pk
namespace Pk
open PySem PySem.Spec
open PyProof.Rows L2
/-! ## need_place -/
theorem sc_need_place : FnScope ["place", "most"] ["place", "most"] (defScope s_need_place) := ⟨rfl, rfl, rfl, by decide +kernel, rfl, by decide +kernel, by decide +kernel⟩
def sp_need_place (K : PySem.W.Frag) : Sp := fun vs H Q _ => ∃ (i n : Int), vs = [.int i, .int n] ∧ 0 ≤ i ∧ i ≤ n ∧ Q .non H
def t_need_place (K : PySem.W.Frag) : TS := (tIfS (tNot (tB (tCall (sp_is_within K) [] E0 (tCons (tVar 0) (tCons (tC (.int 0)) (tCons (tVar 1) tNil)))))) tNever tNext)
section
variable {P : Program} {w : World} {K : PySem.W.Frag} {mg : Str → Option Value} {base : Heap}
theorem w_need_place (T : Txt w K mg) (cdv : Value) (A : Around) (outer : List Env) (s : Shared) (H : Hp) (E : XK) (hr : Room 2 (A.deeper (envOfC "need_place" (defScope s_need_place) s.heap.objs.size (He.ga K "need_place") cdv))) :
    PSs (cxOf CX0 P w K mg base ["place", "most"] "need_place" (defScope s_need_place) (He.ga K "need_place") cdv A outer s H E).nox (defBody s_need_place) (t_need_place K) := by
  obtain ⟨⟨fd_is_within, F_is_within, b_is_within⟩, k_is_within⟩ := ok_is_within (P := P) (base := base) T
  exact (pss_one (ps_if (pt_not (pt_val (pe_call F_is_within (hr.mono (by decide)) (by exact rfl) T.g_is_within k_is_within b_is_within .nil pass0 (pa_cons (pv 0) (pa_cons pe_int (pa_cons (pv 1) pa_nil)))))) (pss_one ps_never) pss_nil))
theorem r_need_place (T : Txt w K mg) (vs : List V) (H : Hp) (Q : VK) (E : XK) (h : sp_need_place K vs H Q E) : t_need_place K { nx := fun _ H' => Q .non H', rt := Q } (start ["place", "most"] vs) H := by
  obtain ⟨i, n, rfl, h1, h2, k⟩ := h
  refine y_no (Ans.to (ans_not (ans_val (val_call (v := .bl true) (va_3 (val_var rfl) val_c (val_var rfl)) fun Q q => ⟨i, 0, n, rfl, ?_⟩))) rfl) k
  rw [decide_eq_true h1, decide_eq_true h2]; exact q
theorem ok_need_place (T : Txt w K mg) : Df P w K mg base 3 (He.ga K "need_place") ["place", "most"] (sp_need_place K) :=
  df_of T.f_need_place sc_need_place (fun _ _ _ _ _ _ us hl => match us, hl with | [_, _], _ => rfl) (fun vs H Q E h => by
    obtain ⟨i, n, rfl, _⟩ := h
    rfl) (fun cdv A outer s H E hr => w_need_place T cdv A outer s H E hr) (fun vs H Q E h => r_need_place T vs H Q E h)
end
end Pk
namespace Pk
open PySem PySem.Spec
open PyProof.Rows L2
/-! ## mixed -/
theorem sc_mixed : FnScope ["one", "other", "found", "at", "number"] ["one", "other"] (defScope s_mixed) := ⟨rfl, rfl, rfl, by decide +kernel, rfl, by decide +kernel, by decide +kernel⟩
def sp_mixed (K : PySem.W.Frag) : Sp := fun vs H Q _ => ∃ (S : Hp) (v1 v2 : V) (ns ms : List Int), vs = [v1, v2] ∧ Ex S H ∧ At S v1 (eIL ns) ∧ At S v2 (eIL ms) ∧ ns.length + ms.length ≤ 1000 ∧ ∀ S' H' v' ks, Gw S H S' H' → At S' v' (eIL ks) → ks.length = ns.length + ms.length → (∀ z ∈ ks, z ∈ ns ∨ z ∈ ms) → Q v' H'
def t_mixed (K : PySem.W.Frag) : TS := (tSeq (tAsg (tLst tNil) (gName 2))
  (tSeq (tAsg (tC (.int 0)) (gName 3))
  (tSeq (tFor (iList K (tVar 0)) (gName 4) (tSeq (tWhile (tAnd (tTest (tOp oLt (tVar 3) (tCB (cLenL K) (tCons (tVar 1) tNil)))) (tTest (tOp oLt (tOp (rIxL K) (tVar 1) (tVar 3)) (tVar 4)))) (tSeq (tDrop (tBM K "list" rAppend (tVar 2) (tCons (tOp (rIxL K) (tVar 1) (tVar 3)) tNil)))
  (tAug 3 (tC (.int 1)) (ipI fun i j => i + j))))
  (tDrop (tBM K "list" rAppend (tVar 2) (tCons (tVar 4) tNil)))))
  (tRet (tOp rCat (tVar 2) (tSl (rSlL K) (tVar 1) (tPart (tVar 3)) tNoPart))))))
section
variable {P : Program} {w : World} {K : PySem.W.Frag} {mg : Str → Option Value} {base : Heap}
theorem w_mixed (T : Txt w K mg) (cdv : Value) (A : Around) (outer : List Env) (s : Shared) (H : Hp) (E : XK) (hr : Room 0 (A.deeper (envOfC "mixed" (defScope s_mixed) s.heap.objs.size (He.ga K "mixed") cdv))) :
    PSs (cxOf CX0 P w K mg base ["one", "other", "found", "at", "number"] "mixed" (defScope s_mixed) (He.ga K "mixed") cdv A outer s H E).nox (defBody s_mixed) (t_mixed K) := by
  exact (pss_cons (ps_set (i := 2) sc_mixed.nd rfl (Or.inl rfl) (pe_lst pa_nil))
  (pss_cons (ps_set (i := 3) sc_mixed.nd rfl (Or.inl rfl) pe_int)
  (pss_cons (ps_for PassesOwn.never rfl (pi_list (pv 0)) (pg_name (i := 4) sc_mixed.nd rfl (Or.inl rfl)) (pss_cons (ps_while PassesOwn.never (PW.pt (pw_and (pt_cmpR op_lt (pv 3) (pe_callB cl_lenL (by exact rfl) T.n_len PySem.boot_len (pa_cons (pv 1) pa_nil)) (nomark _)) (pw_and1 (pt_cmpR op_lt (pe_ix ix_list (pv 1) (pv 3) (fun _ _ => rfl)) (pv 4) (nomark _))))) (pss_cons (ps_expr (pe_bm PySem.F.plainAttrs_list PySem.F.slot_list_append PySem.F.type_list_append mt_append (pv 2) (pa_cons (pe_ix ix_list (pv 1) (pv 3) (fun _ _ => rfl)) pa_nil)))
  (pss_one (ps_aug (i := 3) sc_mixed.nd rfl (Or.inl rfl) pe_int ip_add))))
  (pss_one (ps_expr (pe_bm PySem.F.plainAttrs_list PySem.F.slot_list_append PySem.F.type_list_append mt_append (pv 2) (pa_cons (pv 4) pa_nil))))))
  (pss_one (ps_ret (pe_op op_cat (pv 2) (pe_slice sl_list (pv 1) (po_some (pv 3)) po_none)))))))
theorem r_mixed (T : Txt w K mg) (vs : List V) (H : Hp) (Q : VK) (E : XK) (h : sp_mixed K vs H Q E) : t_mixed K { nx := fun _ H' => Q .non H', rt := Q } (start ["one", "other", "found", "at", "number"] vs) H := by
  obtain ⟨S, v1, v2, ns, ms, rfl, eS, hv1, hv2, zl, k⟩ := h
  obtain ⟨p1, rfl, hp1⟩ := hv1.il_
  obtain ⟨p2, rfl, hp2⟩ := hv2.il_
  refine x_setC (c_lst va_nil (by simp) fun l hl => x_set val_c ?_)
  have sl := eS.free hl
  refine x_forL (K := K) (a := p1) (xs := ns.map V.int) (val_var rfl) (SqL.of ((Ex.new hl) _ _ (eS _ _ hp1))) (fun n σ' H' => ∃ (ks : List Int) (i : Nat) (z : Option V), σ' = [some (.ref p1), some (.ref p2), some (.ref l), some (.int (i : Int)), z] ∧ Gw S H S H' ∧ H' l = some (.lst (ks.map V.int)) ∧ i ≤ ms.length ∧ ks.length = n + i ∧ ∀ z ∈ ks, z ∈ ns ∨ z ∈ ms) ⟨[], 0, none, rfl, (Gw.refl eS).mut hl, upd_same, Nat.zero_le _, rfl, fun z hz => by cases hz⟩ (fun n σ' H' ⟨ks, i, z, _, g, _⟩ => SqL.of (g.i _ _ hp1)) ?_ ?_
  · rintro n y σ' H' hy ⟨ks, i, z, rfl, g, hw, hi, hk, hall⟩
    rw [List.getElem?_map] at hy
    obtain ⟨x, hx, rfl⟩ := Option.map_eq_some_iff.mp hy
    have hn : n < ns.length := (List.getElem?_eq_some_iff.mp hx).1
    refine x_while (fun m σ' H' => ∃ (ks : List Int) (i : Nat), σ' = [some (.ref p1), some (.ref p2), some (.ref l), some (.int (i : Int)), some (.int x)] ∧ Gw S H S H' ∧ H' l = some (.lst (ks.map V.int)) ∧ i ≤ ms.length ∧ ks.length = n + i ∧ (∀ z ∈ ks, z ∈ ns ∨ z ∈ ms) ∧ m = ms.length - i) (ms.length - i) ⟨ks, i, rfl, g, hw, hi, hk, hall, rfl⟩ ?_
    clear hw hk hall hi g
    rintro m σ' H' ⟨ks, i, rfl, g, hw, hi, hk, hall, rfl⟩
    have t1 : Ans (tTest (tOp oLt (tVar 3) (tCB (cLenL K) (tCons (tVar 1) tNil)))) [some (.ref p1), some (.ref p2), some (.ref l), some (.int (i : Int)), some (.int x)] H' (decide (i < ms.length)) := Ans.to (ans_te (val_I0 (val_var rfl) (val_lenL (val_var rfl) (g.i _ _ hp2)))) (by rw [List.length_map]; exact decide_eq_decide.mpr (by omega))
    refine ⟨_, ans_andW (b := decide (ms.getD i 0 < x)) t1 (fun z => ?_), fun hb => ?_, fun hb => ?_⟩
    · have hi2 := of_decide_eq_true z
      have hg := List.getElem?_eq_getElem hi2
      exact Ans.to (ans_te (val_I0 (val_ixL (val_var rfl) (val_var rfl) (g.i _ _ hp2) (at_nat rfl (map_get hg))) (val_var rfl))) (by rw [List.getD_eq_getElem?_getD, hg]; rfl)
    · have hi2 : i < ms.length := by
        simp only [Bool.and_eq_true, decide_eq_true_eq] at hb
        exact hb.1
      have hg := List.getElem?_eq_getElem hi2
      refine ⟨_, fun _ _ q => q, ?_⟩
      refine x_app (val_var rfl) (val_ixL (val_var rfl) (val_var rfl) (g.i _ _ hp2) (at_nat rfl (map_get hg))) hw (by rw [List.length_map]; omega) (y_augI (f := fun i j => i + j) rfl val_c ?_)
      refine ⟨_, ?_, ks ++ [ms[i]], i + 1, rfl, g.set hl sl, ?_, hi2, by rw [List.length_append, hk]; rfl, fun z hz => ?_, rfl⟩
      · omega
      · rw [upd_same, List.map_append]; rfl
      · rcases List.mem_append.mp hz with h | h
        · exact hall z h
        · rw [List.mem_singleton.mp h]; exact .inr (List.getElem_mem hi2)
    · refine y_app (val_var rfl) (val_var rfl) hw (by rw [List.length_map]; omega) ⟨ks ++ [x], i, _, rfl, g.set hl sl, ?_, hi, by rw [List.length_append, hk]; simp only [List.length_cons, List.length_nil]; omega, fun z hz => ?_⟩
      · rw [upd_same, List.map_append]; rfl
      · rcases List.mem_append.mp hz with h | h
        · exact hall z h
        · rw [List.mem_singleton.mp h]; exact .inl (List.mem_of_getElem? hx)
  · rintro σ' H' ⟨ks, i, z, rfl, g, hw, hi, hk, hall⟩
    rw [List.length_map] at hk
    refine x_retC ⟨_, rfl, _, rfl, _, rfl, _, rfl, p2, _, rfl, SqL.of (g.i _ _ hp2), fun q hq => ?_⟩
    have hlq := upd_get (o := .lst (cutV (ms.map V.int) (some (i : Int)) none)) hw hq
    have ec : cutV (ms.map V.int) (some (i : Int)) none = (ms.drop i).map V.int := by
      rw [cut_from, List.map_drop]
    rw [ec] at hlq ⊢
    refine ⟨l, q, _, _, rfl, rfl, hlq, upd_same, small5 (by rw [List.length_map, List.length_map, List.length_drop]; omega), fun r hr => ?_⟩
    rw [← List.map_append]
    refine k _ _ _ (ks ++ ms.drop i) ((g.mut hq).put hr) (.lst upd_same (ata_ints _)) ?_ ?_
    · rw [List.length_append, List.length_drop]; omega
    · intro z hz
      rcases List.mem_append.mp hz with h | h
      · exact hall z h
      · exact .inr (List.mem_of_mem_drop h)
theorem ok_mixed (T : Txt w K mg) : Df P w K mg base 1 (He.ga K "mixed") ["one", "other"] (sp_mixed K) :=
  df_of T.f_mixed sc_mixed (fun _ _ _ _ _ _ us hl => match us, hl with | [_, _], _ => rfl) (fun vs H Q E h => by
    obtain ⟨S, v1, v2, ns, ms, rfl, _⟩ := h
    rfl) (fun cdv A outer s H E hr => w_mixed T cdv A outer s H E hr) (fun vs H Q E h => r_mixed T vs H Q E h)
end
end Pk
namespace Pk
open PySem PySem.Spec
open PyProof.Rows L2
/-! ## floors_of -/
theorem sc_floors_of : FnScope ["ends", "floors", "blocks", "above", "end", "left", "right"] ["ends"] (defScope s_floors_of) := ⟨rfl, rfl, rfl, by decide +kernel, rfl, by decide +kernel, by decide +kernel⟩
def sp_floors_of (K : PySem.W.Frag) : Sp := fun vs H Q _ => ∃ (S : Hp) (v : V) (ns : List Int), vs = [v] ∧ Ex S H ∧ At S v (eIL ns) ∧ ns.length ≤ 96 ∧ ∀ S' H' v' fs, Gw S H S' H' → At S' v' (eIL3 fs) → (∀ f ∈ fs, f.length ≤ 1000 ∧ ∀ b ∈ f, b.length ≤ 1000 ∧ ∀ z ∈ b, z ∈ ns) → Q v' H'
def t_floors_of (K : PySem.W.Frag) : TS := (tSeq (tAsg (tLst (tCons (tLc (iList K (tVar 0)) (gName 4) tYes (tLst (tCons (tVar 4) tNil)) [4]) tNil)) (gName 1))
  (tSeq (tWhile (tTest (tOp oGt (tCB (cLenL K) (tCons (tOp (rIxL K) (tVar 1) (tUn oNeg (tC (.int 1)))) tNil)) (tC (.int 1)))) (tSeq (tAsg (tOp (rIxL K) (tVar 1) (tUn oNeg (tC (.int 1)))) (gName 2))
  (tSeq (tAsg (tLc (iZip K (tCons (tSl2 K 0 (tVar 2)) (tCons (tSl2 K 1 (tVar 2)) tNil))) (gTup K 2 (gCons (gName 5) (gCons (gName 6) gNil))) tYes (tCall (sp_mixed K) [] E0 (tCons (tVar 5) (tCons (tVar 6) tNil))) [5, 6]) (gName 3))
  (tSeq (tIfS (tTest (tOp rEq (tOp oMod (tCB (cLenL K) (tCons (tVar 2) tNil)) (tC (.int 2))) (tC (.int 1)))) (tDrop (tBM K "list" rAppend (tVar 3) (tCons (tCB (cListOf K) (tCons (tOp (rIxL K) (tVar 2) (tUn oNeg (tC (.int 1)))) tNil)) tNil))) tNext)
  (tDrop (tBM K "list" rAppend (tVar 1) (tCons (tVar 3) tNil)))))))
  (tRet (tVar 1))))
section
variable {P : Program} {w : World} {K : PySem.W.Frag} {mg : Str → Option Value} {base : Heap}
theorem w_floors_of (T : Txt w K mg) (cdv : Value) (A : Around) (outer : List Env) (s : Shared) (H : Hp) (E : XK) (hr : Room 1 (A.deeper (envOfC "floors_of" (defScope s_floors_of) s.heap.objs.size (He.ga K "floors_of") cdv))) :
    PSs (cxOf CX0 P w K mg base ["ends", "floors", "blocks", "above", "end", "left", "right"] "floors_of" (defScope s_floors_of) (He.ga K "floors_of") cdv A outer s H E).nox (defBody s_floors_of) (t_floors_of K) := by
  obtain ⟨⟨fd_mixed, F_mixed, b_mixed⟩, k_mixed⟩ := ok_mixed (P := P) (base := base) T
  exact (pss_cons (ps_set (i := 1) sc_floors_of.nd rfl (Or.inl rfl) (pe_lst (pa_cons (pe_lc (own := [("end", 4)]) (g := (gName 4)) (tt := tYes) rfl sc_floors_of.nd (pi_list (pv 0)) (blkOk_by (N := ["ends", "floors", "blocks", "above", "end", "left", "right"]) (sc := defScope s_floors_of) (by decide +kernel)) (fun _ _ _ _ _ => (pg_name (i := 4) sc_floors_of.nd rfl (Or.inl rfl))) (fun _ _ _ _ _ => pts_nil) (fun _ _ _ _ _ => (pe_lst (pa_cons (pv 4) pa_nil)))) pa_nil)))
  (pss_cons (ps_while PassesOwn.never (pt_cmpR op_gt (pe_callB cl_lenL (by exact rfl) T.n_len PySem.boot_len (pa_cons (pe_ix ix_list (pv 1) (pe_un un_neg pe_int) (fun _ _ => rfl)) pa_nil)) pe_int (nomark _)) (pss_cons (ps_set (i := 2) sc_floors_of.nd rfl (Or.inl rfl) (pe_ix ix_list (pv 1) (pe_un un_neg pe_int) (fun _ _ => rfl)))
  (pss_cons (ps_setLc (i := 3) (own := [("left", 5), ("right", 6)]) (g := (gTup K 2 (gCons (gName 5) (gCons (gName 6) gNil)))) (tt := tYes) rfl sc_floors_of.nd rfl rfl (sw_true rfl rfl rfl (by decide +kernel)) (pi_zip (by exact rfl) T.n_zip (pa_cons (pe_sl20 (pv 2)) (pa_cons (pe_sl21 (pv 2)) pa_nil))) (blkOk_by (N := ["ends", "floors", "blocks", "above", "end", "left", "right"]) (sc := defScope s_floors_of) (by decide +kernel)) (fun _ _ _ _ _ => (pg_tup rfl (pgs_cons (pg_name (i := 5) sc_floors_of.nd rfl (Or.inl rfl)) (pgs_cons (pg_name (i := 6) sc_floors_of.nd rfl (Or.inl rfl)) pgs_nil)))) (fun _ _ _ _ _ => pts_nil) (fun _ _ _ _ _ => (pe_call F_mixed (hr.mono (by decide)) (by exact rfl) T.g_mixed k_mixed b_mixed .nil pass0 (pa_cons (pv 5) (pa_cons (pv 6) pa_nil)))))
  (pss_cons (ps_if (pt_cmpR op_eq (pe_op op_mod (pe_callB cl_lenL (by exact rfl) T.n_len PySem.boot_len (pa_cons (pv 2) pa_nil)) pe_int) pe_int (nomark _)) (pss_one (ps_expr (pe_bm PySem.F.plainAttrs_list PySem.F.slot_list_append PySem.F.type_list_append mt_append (pv 3) (pa_cons (pe_callTy cl_listOf (by exact rfl) T.n_list (by decide +kernel) (pa_cons (pe_ix ix_list (pv 2) (pe_un un_neg pe_int) (fun _ _ => rfl)) pa_nil)) pa_nil)))) pss_nil)
  (pss_one (ps_expr (pe_bm PySem.F.plainAttrs_list PySem.F.slot_list_append PySem.F.type_list_append mt_append (pv 1) (pa_cons (pv 3) pa_nil))))))))
  (pss_one (ps_ret (pv 1)))))
theorem r_floors_of (T : Txt w K mg) (vs : List V) (H : Hp) (Q : VK) (E : XK) (h : sp_floors_of K vs H Q E) : t_floors_of K { nx := fun _ H' => Q .non H', rt := Q } (start ["ends", "floors", "blocks", "above", "end", "left", "right"] vs) H := by
  obtain ⟨S, v, ns, rfl, eS, hv, zl, k⟩ := h
  obtain ⟨p, rfl, hp⟩ := hv.il_
  refine x_setC (c_lst1 (c_tlc (S := S) (fun R r => ⟨_, rfl, p, rfl, ⟨ns.map V.int, SqL.of (eS _ _ hp)⟩, r⟩) (walk_list (K := K) (a := p) (xs := ns.map V.int)) (fun n S acc => AtA S acc (((ns.take n).map fun x => [x]).map eIL)) eS (fun H' e => SqL.of (e _ _ hp)) .nil (fun n S' H' acc x H'' R L hk g1 hF hy kR kL => ?_) (fun D S' H2 acc hF g1 sD hD eD => ?_)))
  · obtain ⟨rfl, hx⟩ := hy
    rw [List.getElem?_map] at hx
    obtain ⟨z, hz, rfl⟩ := Option.map_eq_some_iff.mp hx
    refine ⟨rfl, c_yes (te := tLst _) (c_lst (va_1 (val_var rfl)) (by simp) fun u hu => kR _ (upd S' u (.lst [.int z])) _ ((Gw.refl g1.i).put hu) ?_ ?_)⟩
    · rw [List.take_succ, hz, List.map_append, List.map_append]
      exact (hF.mono (Ex.new (g1.freeS hu))).snoc (.lst upd_same (ata_ints [z]))
    · rw [hF.len, List.length_map, List.length_map, List.length_take]; omega
  rw [List.length_map, List.take_of_length_le (Nat.le_refl _)] at hF
  have gD := g1.frz hD sD eD
  refine ⟨one_sz, fun l hl => ?_⟩
  have hl0 := gD.free hl
  refine x_while (fun m σ' H' => ∃ (S' : Hp) (ws : List V) (fs : List (List (List Int))) (f : List (List Int)) (z2 z3 z4 z5 z6 : Option V), σ' = [some (.ref p), some (.ref l), z2, z3, z4, z5, z6] ∧ Gw S H S' H' ∧ S' l = none ∧ H' l = some (.lst ws) ∧ AtA S' ws ((fs ++ [f]).map eILL) ∧ (∀ u ∈ fs ++ [f], u.length ≤ 1000 ∧ ∀ b ∈ u, b.length ≤ 1000 ∧ ∀ z ∈ b, z ∈ ns) ∧ f.flatten.length ≤ 96 ∧ f.length ≤ 96 ∧ fs.length + f.length ≤ 96 + 1 ∧ m = f.length) ns.length ⟨_, [.ref D], [], ns.map fun x => [x], none, none, none, none, none, rfl, gD.mut hl, gD.freeS hl, upd_same, .cons (.lst upd_same (hF.mono (Ex.new sD))) .nil, fun f hf => ?_, ?_, by rw [List.length_map]; exact zl, by rw [List.length_map]; simp only [List.length_nil]; omega, (List.length_map _).symm⟩ ?_
  · have hf : f = ns.map fun x => [x] := by simpa using hf
    subst hf
    refine ⟨by rw [List.length_map]; omega, fun b hb => ?_⟩
    obtain ⟨x, hx, rfl⟩ := List.mem_map.mp hb
    exact ⟨by simp, fun z hz => by rw [List.mem_singleton.mp hz]; exact hx⟩
  · have e : (ns.map fun x => [x]).flatten = ns := by
      clear hv zl k hp hF
      induction ns with
      | nil => rfl
      | cons x r ih => rw [List.map_cons, List.flatten_cons, ih]; rfl
    rw [e]; exact zl
  rintro m σ' H' ⟨S', ws, fs, f, z2, z3, z4, z5, z6, rfl, g, sl, hw, hA, hall, hfl, hf96, hcount, rfl⟩
  have hn := hA.lenM
  rw [List.length_append, List.length_singleton] at hn
  obtain ⟨v, hv2, hat⟩ := hA.getF (i := fs.length) (x := f) (by simp)
  obtain ⟨pf, us, rfl, hpf, hU⟩ := hat.lst_
  have hpf' := g.i _ _ hpf
  have hul := hU.lenM
  have top : Val (tOp (rIxL K) (tVar 1) (tUn oNeg (tC (.int 1)))) [some (.ref p), some (.ref l), z2, z3, z4, z5, z6] H' (.ref pf) := val_ixL (val_var rfl) (val_neg val_c) hw (at_neg1 (by rw [hn]; exact hv2))
  refine ⟨decide (1 < f.length), Ans.to (ans_te (val_I0 (val_lenL top hpf') val_c)) (by rw [hul]; exact decide_eq_decide.mpr (by omega)), fun hb => ?_, fun hb => ?_⟩
  · have hb := of_decide_eq_true hb
    have hfm := hall f (by simp)
    refine ⟨_, fun _ _ q => q, x_set top ?_⟩
    refine x_setC ⟨_, rfl, pf, us, rfl, SqL.of hpf', fun q1 h1 => ⟨_, rfl, pf, us, rfl, SqL.of (upd_get hpf' h1), fun q2 h2 => ⟨q1, q2, evN 0 us, evN 1 us, rfl, SqL.of (upd_get upd_same h2), SqL.of upd_same, ?_⟩⟩⟩
    have g2 := (g.put (o := .lst (evN 0 us)) h1).put (o := .lst (evN 1 us)) h2
    have sl1 : upd S' q1 (.lst (evN 0 us)) l = none := by
      rw [upd_ne (fun z => by rw [← z, hw] at h1; cases h1)]; exact sl
    have hw2 := upd_get (o := .lst (evN 1 us)) (upd_get (o := .lst (evN 0 us)) hw h1) h2
    have sl2 : upd (upd S' q1 (.lst (evN 0 us))) q2 (.lst (evN 1 us)) l = none := by
      rw [upd_ne (fun z => by rw [← z, upd_get hw h1] at h2; cases h2)]; exact sl1
    have k1 : upd (upd S' q1 (.lst (evN 0 us))) q2 (.lst (evN 1 us)) q1 = some (.lst (evN 0 us)) := upd_get upd_same ((g.put (o := .lst (evN 0 us)) h1).freeS h2)
    have k2 : upd (upd S' q1 (.lst (evN 0 us))) q2 (.lst (evN 1 us)) q2 = some (.lst (evN 1 us)) := upd_same
    have e2 : Ex S' (upd (upd S' q1 (.lst (evN 0 us))) q2 (.lst (evN 1 us))) := (Ex.new (g.freeS h1)).trans (Ex.new ((g.put (o := .lst (evN 0 us)) h1).freeS h2))
    generalize hS2 : upd (upd S' q1 (.lst (evN 0 us))) q2 (.lst (evN 1 us)) = S2 at g2 sl2 k1 k2 e2
    generalize upd (upd H' q1 (.lst (evN 0 us))) q2 (.lst (evN 1 us)) = H2 at g2 hw2
    have hl1 : (evN 0 us).length = (us.length + 1) / 2 := evN_length 0 us (by omega)
    have hl2 : (evN 1 us).length = us.length / 2 := by rw [evN_length 1 us (by omega)]; omega
    refine c_lc (S := S2) (H := H2) (walk_zip (K := K) (a := q1) (b := q2) (xs := evN 0 us) (ys := evN 1 us) (n := us.length / 2) (by omega)) (fun n S acc => ∃ gs : List (List Int), AtA S acc (gs.map eIL) ∧ gs.length = n ∧ (∀ b ∈ gs, b.length ≤ 1000 ∧ ∀ z ∈ b, z ∈ ns) ∧ gs.flatten.length = (f.take (2 * n)).flatten.length) g2.i (fun H' e => ⟨SqL.of (e _ _ k1), SqL.of (e _ _ k2)⟩) ⟨[], .nil, rfl, (fun b hb => by cases hb), by simp⟩ (fun n S3 H3 acc x H4 R L hk g3 hF hy kR kL => ?_) (fun D2 S3 H3 acc hF g3 sD2 hD2 eD2 => ?_)
    · obtain ⟨T, x1, x2, rfl, hT, rfl, y1, y2⟩ := hy
      have y1 : (evN 0 us)[n]? = some x1 := y1
      have y2 : (evN 1 us)[n]? = some x2 := y2
      rw [evN_get 0 us (by omega)] at y1
      rw [evN_get 1 us (by omega)] at y2
      obtain ⟨b1, hb1, at1⟩ := hU.getM y1
      obtain ⟨b2, hb2, at2⟩ := hU.getM y2
      obtain ⟨gs, hG, hGl, hGm, hGf⟩ := hF
      have m1 := hfm.2 b1 (List.mem_of_getElem? hb1)
      have m2 := hfm.2 b2 (List.mem_of_getElem? hb2)
      have f1 := flat_mem_len (List.mem_of_getElem? hb1)
      have f2 := flat_mem_len (List.mem_of_getElem? hb2)
      have g4 := (Gw.refl g3.i).mut (o := .tup [x1, x2]) hT
      have es := e2.trans g3.s
      refine ⟨T, _, rfl, SqT.of upd_same, rfl, _, _, rfl, _, _, rfl, rfl, rfl, c_yes (te := tCall (sp_mixed K) [] E0 _) (c_call (va_2 (val_var rfl) (val_var rfl)) ⟨S3, x1, x2, b1, b2, rfl, g4.i, at1.mono es, at2.mono es, by omega, fun S5 H5 v5 ks g5 at5 hks hkm => kR _ S5 _ (g4.trans g5) ⟨gs ++ [ks], (hG.mono g5.s).snocM at5, by rw [List.length_append, hGl]; rfl, fun b hb => ?_, ?_⟩ ?_⟩)⟩
      · rcases List.mem_append.mp hb with h | h
        · exact hGm b h
        · rw [List.mem_singleton.mp h]
          refine ⟨by omega, fun z hz => ?_⟩
          rcases hkm z hz with h | h
          · exact m1.2 z h
          · exact m2.2 z h
      · have t1 := flat_take_succ hb1
        have t2 := flat_take_succ hb2
        rw [Nat.zero_add] at t1
        rw [show 1 + 2 * n + 1 = 2 * (n + 1) by omega, show 1 + 2 * n = 2 * n + 1 by omega] at t2
        rw [List.flatten_append, List.length_append, List.flatten_cons, List.flatten_nil, List.append_nil, hks, hGf]
        omega
      · rw [hG.lenM, hGl]; omega
    · obtain ⟨gs, hG, hGl, hGm, hGf⟩ := hF
      have g4 := g2.trans g3
      have sl4 := g3.out hw2 sl2
      have hw4 := g3.h _ _ hw2
      have hDH : H D2 = none := g2.h.free hD2
      have es := e2.trans g3.s
      have fin : ∀ (S5 H5 : Hp) (acc5 : List V) (gs5 : List (List Int)) (σ5 : L2.St) (y2 y3 y4 y5 y6 : Option V), σ5 = [some (.ref p), some (.ref l), y2, some (.ref D2), y4, y5, y6] → Gw S H S5 H5 → Ex S3 S5 → S5 l = none → S5 D2 = none → H5 l = some (.lst ws) → H5 D2 = some (.lst acc5) → AtA S5 acc5 (gs5.map eIL) → (∀ b ∈ gs5, b.length ≤ 1000 ∧ ∀ z ∈ b, z ∈ ns) → gs5.flatten.length = f.flatten.length → gs5.length < f.length →
          tDrop (tBM K "list" rAppend (tVar 1) (tCons (tVar 3) tNil)) { nx := fun σ2 H2 => ∃ m', m' < f.length ∧ ∃ (S' : Hp) (ws : List V) (fs : List (List (List Int))) (f : List (List Int)) (z2 z3 z4 z5 z6 : Option V), σ2 = [some (.ref p), some (.ref l), z2, z3, z4, z5, z6] ∧ Gw S H S' H2 ∧ S' l = none ∧ H2 l = some (.lst ws) ∧ AtA S' ws ((fs ++ [f]).map eILL) ∧ (∀ u ∈ fs ++ [f], u.length ≤ 1000 ∧ ∀ b ∈ u, b.length ≤ 1000 ∧ ∀ z ∈ b, z ∈ ns) ∧ f.flatten.length ≤ 96 ∧ f.length ≤ 96 ∧ fs.length + f.length ≤ 96 + 1 ∧ m' = f.length, rt := Q, bk := tRet (tVar 1) { nx := fun x H' => Q V.non H', rt := Q }, ct := fun σ2 H2 => ∃ m', m' < f.length ∧ ∃ (S' : Hp) (ws : List V) (fs : List (List (List Int))) (f : List (List Int)) (z2 z3 z4 z5 z6 : Option V), σ2 = [some (.ref p), some (.ref l), z2, z3, z4, z5, z6] ∧ Gw S H S' H2 ∧ S' l = none ∧ H2 l = some (.lst ws) ∧ AtA S' ws ((fs ++ [f]).map eILL) ∧ (∀ u ∈ fs ++ [f], u.length ≤ 1000 ∧ ∀ b ∈ u, b.length ≤ 1000 ∧ ∀ z ∈ b, z ∈ ns) ∧ f.flatten.length ≤ 96 ∧ f.length ≤ 96 ∧ fs.length + f.length ≤ 96 + 1 ∧ m' = f.length } σ5 H5 := fun S5 H5 acc5 gs5 σ5 y2 y3 y4 y5 y6 hσ g5 e5 sl5 sD5 hw5 hD5 hA5 hm5 hf5 hl5 => by
        subst hσ
        have g6 := g5.frz hDH sD5 hD5
        have sl6 : upd S5 D2 (.lst acc5) l = none := by
          by_cases q : l = D2
          · rw [q] at hw5 hw2; rw [hD2] at hw2; cases hw2
          · rw [upd_ne q]; exact sl5
        refine y_app (val_var rfl) (val_var rfl) hw5 (by omega) ⟨gs5.length, hl5, _, ws ++ [.ref D2], fs ++ [f], gs5, _, _, _, _, _, rfl, g6.set hl0 sl6, sl6, upd_same, ?_, ?_, by omega, by omega, ?_, rfl⟩
        · rw [List.map_append (l₂ := [gs5])]
          exact (hA.mono ((es.trans e5).trans (Ex.new sD5))).snoc (.lst upd_same (hA5.mono (Ex.new sD5)))
        · intro f' hf'
          rcases List.mem_append.mp hf' with h | h
          · exact hall f' h
          · rw [List.mem_singleton.mp h]
            exact ⟨by omega, hm5⟩
        · rw [List.length_append, List.length_singleton]; omega
      refine x_when (b := decide (f.length % 2 = 1)) (Ans.to (ans_te (val_eq (val_I (val_lenL (xs := us) (val_var rfl) (g3.i _ _ (es _ _ hpf))) val_c (by decide)) val_c rfl)) ?_) (fun ho => ?_) (fun ho => ?_)
      · rw [hul]; exact decide_eq_decide.mpr ⟨fun q => by have := V.int.inj q; omega, fun q => by congr 1; omega⟩
      · have ho := of_decide_eq_true ho
        obtain ⟨b, hb⟩ : ∃ b, f[f.length - 1]? = some b := ⟨_, List.getElem?_eq_getElem (by omega)⟩
        obtain ⟨vb, hvb, atb⟩ := hU.getF hb
        obtain ⟨pb, rfl, hpb⟩ := atb.il_
        have hpb4 := g3.i _ _ (es _ _ hpb)
        refine ⟨_, rfl, .inl ⟨rfl, _, SqL.of eD2⟩, ?_⟩
        refine (val_ixL (val_var rfl) (val_neg val_c) (g3.i _ _ (es _ _ hpf)) (at_neg1 (by rw [hul]; exact hvb))) _ ⟨pb, _, rfl, .inl (SqL.of hpb4), fun r hr => ?_⟩
        have g5 := g4.put (o := .lst (b.map V.int)) hr
        have hD3 := upd_get (o := .lst (b.map V.int)) eD2 hr
        have hw5 := upd_get (o := .lst (b.map V.int)) hw4 hr
        have rl : r ≠ l := fun z => by rw [z, hw4] at hr; cases hr
        have rD : r ≠ D2 := fun z => by rw [z, eD2] at hr; cases hr
        have hbm := hfm.2 b (List.mem_of_getElem? hb)
        refine ⟨D2, acc, _, rfl, rfl, hD3, small6 (by rw [hG.lenM, hGl]; omega), ?_⟩
        refine fin (upd S3 r (.lst (b.map V.int))) _ (acc ++ [.ref r]) (gs ++ [b]) _ _ none _ _ _ rfl (g5.set hDH (by rw [upd_ne rD.symm]; exact sD2)) (Ex.new (g4.freeS hr)) (by rw [upd_ne rl.symm]; exact sl4) (by rw [upd_ne rD.symm]; exact sD2) (by rw [upd_ne (fun z => by rw [z, hD2] at hw2; cases hw2)]; exact hw5) upd_same ((hG.mono (Ex.new (g4.freeS hr))).snocM (.lst upd_same (ata_ints b))) (fun c hc => ?_) ?_ ?_
        · rcases List.mem_append.mp hc with h | h
          · exact hGm c h
          · rw [List.mem_singleton.mp h]; exact hbm
        · have t := flat_take_succ hb
          rw [show f.length - 1 + 1 = f.length by omega, List.take_length] at t
          rw [List.flatten_append, List.length_append, hGf, t, show 2 * (us.length / 2) = f.length - 1 by omega, List.flatten_cons, List.flatten_nil, List.append_nil]
        · rw [List.length_append, List.length_singleton]; omega
      · have ho := of_decide_eq_false ho
        refine fin S3 H3 acc gs _ _ none _ _ _ rfl g4 (Ex.refl _) sl4 sD2 hw4 eD2 hG hGm ?_ (by omega)
        rw [hGf, show 2 * (us.length / 2) = f.length by omega, List.take_length]
  · refine x_ret (val_var rfl) (k _ _ _ (fs ++ [f]) (g.frz hl0 sl hw) (.lst upd_same (hA.mono (Ex.new sl))) hall)
theorem ok_floors_of (T : Txt w K mg) : Df P w K mg base 2 (He.ga K "floors_of") ["ends"] (sp_floors_of K) :=
  df_of T.f_floors_of sc_floors_of (fun _ _ _ _ _ _ us hl => match us, hl with | [_], _ => rfl) (fun vs H Q E h => by
    obtain ⟨S, v, ns, rfl, _⟩ := h
    rfl) (fun cdv A outer s H E hr => w_floors_of T cdv A outer s H E hr) (fun vs H Q E h => r_floors_of T vs H Q E h)
end
end Pk
namespace Pk
open PySem PySem.Spec
open PyProof.Rows L2
/-! ## Tally.__init__ -/
theorem sc_Tally_init : FnScope ["self", "turning"] ["self", "turning"] (defScope s_Tally_init) := ⟨rfl, rfl, rfl, by decide +kernel, rfl, by decide +kernel, by decide +kernel⟩
def sp_Tally_init (K : PySem.W.Frag) : Sp := fun vs H Q _ => ∃ (S H0 : Hp) (q dx : Addr) (v : V) (ls : List Nat), vs = [.ref q, v] ∧ Ex S H0 ∧ Gw S H0 S H ∧ H0 q = none ∧ H q = some (.ins (He.ga K "Tally") dx []) ∧ At S v (eIL (natI ls)) ∧ Turn ls ∧ ∀ S' H', Gw S H0 S' H' → ObT K S' q (ls.length : Nat) → Q .non H'
def t_Tally_init (K : PySem.W.Frag) : TS := (tSeq (tDrop (tCall (sp_need_turning K) [] E0 (tCons (tVar 1) tNil)))
  (tSeq (sFld K (tVar 0) (tCB (cLenL K) (tCons (tVar 1) tNil)) "many")
  (sFld K (tVar 0) (tCall (sp_floors_of K) [] E0 (tCons (tVar 1) tNil)) "floors")))
section
variable {P : Program} {w : World} {K : PySem.W.Frag} {mg : Str → Option Value} {base : Heap}
theorem w_Tally_init (T : Txt w K mg) (cdv : Value) (A : Around) (outer : List Env) (s : Shared) (H : Hp) (E : XK) (hr : Room 4 (A.deeper (envOfC "Tally.__init__" (defScope s_Tally_init) s.heap.objs.size (He.ma K (He.ga K "Tally") "__init__") cdv))) :
    PSs (cxOf CX0 P w K mg base ["self", "turning"] "Tally.__init__" (defScope s_Tally_init) (He.ma K (He.ga K "Tally") "__init__") cdv A outer s H E).nox (defBody s_Tally_init) (t_Tally_init K) := by
  obtain ⟨⟨fd_need_turning, F_need_turning, b_need_turning⟩, k_need_turning⟩ := ok_need_turning (P := P) (base := base) T
  obtain ⟨⟨fd_floors_of, F_floors_of, b_floors_of⟩, k_floors_of⟩ := ok_floors_of (P := P) (base := base) T
  exact (pss_cons (ps_expr (pe_call F_need_turning (hr.mono (by decide)) (by exact rfl) T.g_need_turning k_need_turning b_need_turning .nil pass0 (pa_cons (pv 1) pa_nil)))
  (pss_cons (ps_fld (pv 0) (pe_callB cl_lenL (by exact rfl) T.n_len PySem.boot_len (pa_cons (pv 1) pa_nil)) rfl)
  (pss_one (ps_fld (pv 0) (pe_call F_floors_of (hr.mono (by decide)) (by exact rfl) T.g_floors_of k_floors_of b_floors_of .nil pass0 (pa_cons (pv 1) pa_nil)) rfl))))
theorem r_Tally_init (T : Txt w K mg) (vs : List V) (H : Hp) (Q : VK) (E : XK) (h : sp_Tally_init K vs H Q E) : t_Tally_init K { nx := fun _ H' => Q .non H', rt := Q } (start ["self", "turning"] vs) H := by
  obtain ⟨S, H0, q, dx, v, ls, rfl, eS, g0, h0, hq, hv, ht, k⟩ := h
  obtain ⟨p, rfl, hp⟩ := hv.nat_
  have sq := eS.free h0
  have zl := ht.1
  refine x_dropC (c_call (va_1 (val_var rfl)) ⟨p, ls, rfl, g0.i _ _ hp, ht, fun H1 e1 => ?_⟩)
  have g1 := g0.any e1
  refine x_doC (st_fld (val_lenL (xs := natV ls) (val_var rfl) (g1.i _ _ hp)) (val_var rfl) (e1 _ _ hq) T.cl_Tally T.na_Tally_many (by decide) ?_)
  have g2 := g1.set (o := .ins (He.ga K "Tally") dx (putF "many" (.int (natV ls).length) [])) h0 sq
  have hq2 : upd H1 q (.ins (He.ga K "Tally") dx (putF "many" (.int (natV ls).length) [])) q = some (.ins (He.ga K "Tally") dx (putF "many" (.int (natV ls).length) [])) := upd_same
  refine c_call (va_1 (val_var rfl)) ⟨S, .ref p, natI ls, rfl, g2.i, hv, by unfold natI; rw [List.length_map]; exact zl, fun S3 H3 v3 fs g3 a3 hfs => ?_⟩
  have sq3 := g3.out hq2 sq
  have g4 := g2.trans g3
  refine (val_var rfl) _ ⟨q, He.ga K "Tally", dx, _, rfl, g3.h _ _ hq2, T.cl_Tally, T.na_Tally_floors, by show 1 < 1000; decide, ?_⟩
  have g5 := (g4.set (o := .ins (He.ga K "Tally") dx (tyF (.int (natV ls).length) v3)) h0 sq3).frz h0 sq3 upd_same
  refine k _ _ g5 ⟨dx, v3, fs, ?_, a3.mono (Ex.new sq3), fun f hf => ?_⟩
  · rw [upd_same, natV_len]
  · obtain ⟨z1, z2⟩ := hfs f hf
    refine ⟨z1, fun b hb => ⟨(z2 b hb).1, fun z hz => ?_⟩⟩
    obtain ⟨x, _, rfl⟩ := List.mem_map.mp ((z2 b hb).2 z hz)
    omega
theorem ok_Tally_init (T : Txt w K mg) : Df P w K mg base 5 (He.ma K (He.ga K "Tally") "__init__") ["self", "turning"] (sp_Tally_init K) :=
  df_of T.f_Tally_init sc_Tally_init (fun _ _ _ _ _ _ us hl => match us, hl with | [_, _], _ => rfl) (fun vs H Q E h => by
    obtain ⟨S, H0, q, dx, v, ls, rfl, _⟩ := h
    rfl) (fun cdv A outer s H E hr => w_Tally_init T cdv A outer s H E hr) (fun vs H Q E h => r_Tally_init T vs H Q E h)
end
end Pk
namespace Pk
open PySem PySem.Spec
open PyProof.Rows L2
/-! ## opposite -/
theorem sc_opposite : FnScope ["turning", "found", "start", "goal"] ["turning"] (defScope s_opposite) := ⟨rfl, rfl, rfl, by decide +kernel, rfl, by decide +kernel, by decide +kernel⟩
def sp_opposite (K : PySem.W.Frag) : Sp := fun vs H Q _ => ∃ (S : Hp) (v : V) (ls : List Nat), vs = [v] ∧ Ex S H ∧ At S v (eIL (natI ls)) ∧ Turn ls ∧ ∀ S' H' v', Gw S H S' H' → At S' v' (eIL (natI (opp ls))) → Q v' H'
def t_opposite (K : PySem.W.Frag) : TS := (tSeq (tDrop (tCall (sp_need_turning K) [] E0 (tCons (tVar 0) tNil)))
  (tSeq (tAsg (tOp rRep (tLst (tCons (tC (.int 0)) tNil)) (tCB (cLenL K) (tCons (tVar 0) tNil))) (gName 1))
  (tSeq (tFor (iEnum K (tCons (tVar 0) tNil)) (gTup K 2 (gCons (gName 2) (gCons (gName 3) gNil))) (tAsg (tVar 2) (gSub (tVar 1) (tVar 3) rSetL)))
  (tRet (tVar 1)))))
section
variable {P : Program} {w : World} {K : PySem.W.Frag} {mg : Str → Option Value} {base : Heap}
theorem w_opposite (T : Txt w K mg) (cdv : Value) (A : Around) (outer : List Env) (s : Shared) (H : Hp) (E : XK) (hr : Room 4 (A.deeper (envOfC "opposite" (defScope s_opposite) s.heap.objs.size (He.ga K "opposite") cdv))) :
    PSs (cxOf CX0 P w K mg base ["turning", "found", "start", "goal"] "opposite" (defScope s_opposite) (He.ga K "opposite") cdv A outer s H E).nox (defBody s_opposite) (t_opposite K) := by
  obtain ⟨⟨fd_need_turning, F_need_turning, b_need_turning⟩, k_need_turning⟩ := ok_need_turning (P := P) (base := base) T
  exact (pss_cons (ps_expr (pe_call F_need_turning (hr.mono (by decide)) (by exact rfl) T.g_need_turning k_need_turning b_need_turning .nil pass0 (pa_cons (pv 0) pa_nil)))
  (pss_cons (ps_set (i := 1) sc_opposite.nd rfl (Or.inl rfl) (pe_op op_rep (pe_lst (pa_cons pe_int pa_nil)) (pe_callB cl_lenL (by exact rfl) T.n_len PySem.boot_len (pa_cons (pv 0) pa_nil))))
  (pss_cons (ps_for PassesOwn.never rfl (pi_enum (by exact rfl) T.n_enumerate (pa_cons (pv 0) pa_nil)) (pg_tup rfl (pgs_cons (pg_name (i := 2) sc_opposite.nd rfl (Or.inl rfl)) (pgs_cons (pg_name (i := 3) sc_opposite.nd rfl (Or.inl rfl)) pgs_nil))) (pss_one (ps_asg (pv 2) (pg_sub (pv 1) (pv 3) set_list))))
  (pss_one (ps_ret (pv 1))))))
theorem r_opposite (T : Txt w K mg) (vs : List V) (H : Hp) (Q : VK) (E : XK) (h : sp_opposite K vs H Q E) : t_opposite K { nx := fun _ H' => Q .non H', rt := Q } (start ["turning", "found", "start", "goal"] vs) H := by
  obtain ⟨S, v, ls, rfl, eS, hv, ht, k⟩ := h
  obtain ⟨p, rfl, hpS⟩ := hv.nat_
  have hp := eS _ _ hpS
  have zl := ht.1
  refine x_dropC (c_call (va_1 (val_var rfl)) ⟨p, ls, rfl, hp, ht, fun H1 e1 => ?_⟩)
  have hp1 := e1 _ _ hp
  refine x_setC ⟨by show 1 ≤ sizeLine; decide, fun t ht1 => (val_lenL (xs := natV ls) (val_var rfl) (upd_get hp1 ht1)) _ ⟨t, _, _, rfl, rfl, upd_same, by omega, by rw [natV_len]; omega, ?_, fun l hl => ?_⟩⟩
  · rw [natV_len, Int.toNat_natCast]; exact small5 (by simp only [List.length_cons, List.length_nil]; omega)
  have e0 : (List.replicate (((natV ls).length : Nat) : Int).toNat [V.int 0]).flatten = oppV ls 0 := by
    rw [natV_len, Int.toNat_natCast, oppV_0]; simp
  rw [e0]
  have g2 := ((Gw.refl eS).any e1).mut (o := .lst [.int 0]) ht1
  have hl0 := g2.free hl
  have sl := g2.freeS hl
  refine x_forEL (K := K) (a := p) (xs := natV ls) (val_var rfl) (SqL.of ((g2.mut hl).i _ _ hpS)) (fun n σ' H' => ∃ (z2 z3 : Option V), σ' = [some (.ref p), some (.ref l), z2, z3] ∧ Gw S H S H' ∧ H' l = some (.lst (oppV ls n))) ⟨none, none, rfl, g2.mut hl, upd_same⟩ (fun n σ' H' ⟨z2, z3, _, g, _⟩ => SqL.of (g.i _ _ hpS)) ?_ ?_
  · rintro n y σ' H' T0 hy ⟨z2, z3, rfl, g, hs⟩ hT
    unfold natV at hy
    rw [List.getElem?_map] at hy
    obtain ⟨x, hx, rfl⟩ := Option.map_eq_some_iff.mp hy
    have hgl := ht.lt (List.mem_of_getElem? hx)
    have hs2 := upd_get (o := .tup [.int (n : Nat), .int (x : Nat)]) hs hT
    refine ⟨_, rfl, _, rfl, _, rfl, l, _, _, x, rfl, rfl, hs2, ixN_n (by rw [oppV_len]; exact hgl), _, _, rfl, (g.mut hT).set hl0 sl, ?_⟩
    rw [upd_same, ht.oppV_step hx]
  · rintro σ' H' ⟨z2, z3, rfl, g, hs⟩
    rw [natV_len, ht.oppV_end] at hs
    exact x_ret (val_var rfl) (k _ _ _ (g.frz hl0 sl hs) (At.nat upd_same))
theorem ok_opposite (T : Txt w K mg) : Df P w K mg base 5 (He.ga K "opposite") ["turning"] (sp_opposite K) :=
  df_of T.f_opposite sc_opposite (fun _ _ _ _ _ _ us hl => match us, hl with | [_], _ => rfl) (fun vs H Q E h => by
    obtain ⟨S, v, ls, rfl, _⟩ := h
    rfl) (fun cdv A outer s H E hr => w_opposite T cdv A outer s H E hr) (fun vs H Q E h => r_opposite T vs H Q E h)
end
end Pk
namespace Pk
open PySem PySem.Spec
open PyProof.Rows L2
/-! ## Asks.__init__ -/
theorem sc_Asks_init : FnScope ["self", "lines", "many"] ["self", "lines", "many"] (defScope s_Asks_init) := ⟨rfl, rfl, rfl, by decide +kernel, rfl, by decide +kernel, by decide +kernel⟩
def sp_Asks_init (K : PySem.W.Frag) : Sp := fun vs H Q _ => ∃ (S H0 : Hp) (q dx : Addr) (v : V) (ls : List Nat) (m w : Nat), vs = [.ref q, v, .int (m : Nat)] ∧ Ex S H0 ∧ Gw S H0 S H ∧ H0 q = none ∧ H q = some (.ins (He.ga K "Asks") dx []) ∧ At S v (eIL (natI ls)) ∧ Turn ls ∧ ls.length = m + w ∧ ∀ S' H', Gw S H0 S' H' → ObA K S' q m w (opp ls) → Q .non H'
def t_Asks_init (K : PySem.W.Frag) : TS := (tSeq (tDrop (tCall (sp_need_turning K) [] E0 (tCons (tVar 1) tNil)))
  (tSeq (tDrop (tCall (sp_need_place K) [] E0 (tCons (tVar 2) (tCons (tCB (cLenL K) (tCons (tVar 1) tNil)) tNil))))
  (tSeq (sFld K (tVar 0) (tVar 2) "tall")
  (tSeq (sFld K (tVar 0) (tOp oSub (tCB (cLenL K) (tCons (tVar 1) tNil)) (tVar 2)) "wide")
  (tSeq (sFld K (tVar 0) (tMake (He.ga K "Tally") (sp_Tally_init K) [] E0 (tCons (tVar 1) tNil)) "tally")
  (tSeq (sFld K (tVar 0) (tCB (cListOf K) (tCons (tVar 1) tNil)) "goals")
  (sFld K (tVar 0) (tCall (sp_opposite K) [] E0 (tCons (tVar 1) tNil)) "starts")))))))
section
variable {P : Program} {w : World} {K : PySem.W.Frag} {mg : Str → Option Value} {base : Heap}
theorem w_Asks_init (T : Txt w K mg) (cdv : Value) (A : Around) (outer : List Env) (s : Shared) (H : Hp) (E : XK) (hr : Room 6 (A.deeper (envOfC "Asks.__init__" (defScope s_Asks_init) s.heap.objs.size (He.ma K (He.ga K "Asks") "__init__") cdv))) :
    PSs (cxOf CX0 P w K mg base ["self", "lines", "many"] "Asks.__init__" (defScope s_Asks_init) (He.ma K (He.ga K "Asks") "__init__") cdv A outer s H E).nox (defBody s_Asks_init) (t_Asks_init K) := by
  obtain ⟨⟨fd_need_turning, F_need_turning, b_need_turning⟩, k_need_turning⟩ := ok_need_turning (P := P) (base := base) T
  obtain ⟨⟨fd_need_place, F_need_place, b_need_place⟩, k_need_place⟩ := ok_need_place (P := P) (base := base) T
  obtain ⟨⟨fd_Tally_init, F_Tally_init, b_Tally_init⟩, k_Tally_init⟩ := ok_Tally_init (P := P) (base := base) T
  obtain ⟨⟨fd_opposite, F_opposite, b_opposite⟩, k_opposite⟩ := ok_opposite (P := P) (base := base) T
  exact (pss_cons (ps_expr (pe_call F_need_turning (hr.mono (by decide)) (by exact rfl) T.g_need_turning k_need_turning b_need_turning .nil pass0 (pa_cons (pv 1) pa_nil)))
  (pss_cons (ps_expr (pe_call F_need_place (hr.mono (by decide)) (by exact rfl) T.g_need_place k_need_place b_need_place .nil pass0 (pa_cons (pv 2) (pa_cons (pe_callB cl_lenL (by exact rfl) T.n_len PySem.boot_len (pa_cons (pv 1) pa_nil)) pa_nil))))
  (pss_cons (ps_fld (pv 0) (pv 2) rfl)
  (pss_cons (ps_fld (pv 0) (pe_op op_sub (pe_callB cl_lenL (by exact rfl) T.n_len PySem.boot_len (pa_cons (pv 1) pa_nil)) (pv 2)) rfl)
  (pss_cons (ps_fld (pv 0) (pe_make T.mk_Tally F_Tally_init (hr.mono (by decide)) (by exact rfl) T.g_Tally b_Tally_init .nil pass0 (pa_cons (pv 1) pa_nil)) rfl)
  (pss_cons (ps_fld (pv 0) (pe_callTy cl_listOf (by exact rfl) T.n_list (by decide +kernel) (pa_cons (pv 1) pa_nil)) rfl)
  (pss_one (ps_fld (pv 0) (pe_call F_opposite (hr.mono (by decide)) (by exact rfl) T.g_opposite k_opposite b_opposite .nil pass0 (pa_cons (pv 1) pa_nil)) rfl))))))))
theorem r_Asks_init (T : Txt w K mg) (vs : List V) (H : Hp) (Q : VK) (E : XK) (h : sp_Asks_init K vs H Q E) : t_Asks_init K { nx := fun _ H' => Q .non H', rt := Q } (start ["self", "lines", "many"] vs) H := by
  obtain ⟨S, H0, q, dx, v, ls, m, w, rfl, eS, g0, h0, hq, hv, ht, hl, k⟩ := h
  obtain ⟨p, rfl, hp⟩ := hv.nat_
  have sq := eS.free h0
  have zl := ht.1
  have hnl := natV_len ls
  refine x_dropC (c_call (va_1 (val_var rfl)) ⟨p, ls, rfl, g0.i _ _ hp, ht, fun H1 e1 => ?_⟩)
  have g1 := g0.any e1
  refine x_dropC (c_call (va_2 (val_var rfl) (val_lenL (xs := natV ls) (val_var rfl) (g1.i _ _ hp))) ⟨(m : Nat), ((natV ls).length : Nat), rfl, by omega, by omega, ?_⟩)
  have C := T.cl_Asks
  refine x_doC (st_fld (val_var rfl) (val_var rfl) (e1 _ _ hq) C T.na_Asks_tall (by decide) ?_)
  have g2 := g1.set (o := .ins (He.ga K "Asks") dx (putF "tall" (.int (m : Nat)) [])) h0 sq
  have q2 : upd H1 q (.ins (He.ga K "Asks") dx (putF "tall" (.int (m : Nat)) [])) q = some (.ins (He.ga K "Asks") dx (putF "tall" (.int (m : Nat)) [])) := upd_same
  generalize upd H1 q (.ins (He.ga K "Asks") dx (putF "tall" (.int (m : Nat)) [])) = H2 at g2 q2
  refine x_doC (st_fld (y := .int (w : Nat)) (val_is (val_I0 (val_lenL (xs := natV ls) (val_var rfl) (g2.i _ _ hp)) (val_var rfl)) (by congr 1; omega)) (val_var rfl) q2 C T.na_Asks_wide (by show 1 < 1000; decide) ?_)
  have g3 := g2.set (o := .ins (He.ga K "Asks") dx (putF "wide" (.int (w : Nat)) (putF "tall" (.int (m : Nat)) []))) h0 sq
  have q3 : upd H2 q (.ins (He.ga K "Asks") dx (putF "wide" (.int (w : Nat)) (putF "tall" (.int (m : Nat)) []))) q = some (.ins (He.ga K "Asks") dx (putF "wide" (.int (w : Nat)) (putF "tall" (.int (m : Nat)) []))) := upd_same
  generalize upd H2 q (.ins (He.ga K "Asks") dx (putF "wide" (.int (w : Nat)) (putF "tall" (.int (m : Nat)) []))) = H3 at g3 q3
  refine x_doC (D := _) (fld_C (c_make (va_1 (val_var rfl)) fun t dt ht1 hdt htd => ?_))
  have gm : Gw S H3 S (upd (upd H3 dt (.own t)) t (.ins (He.ga K "Tally") dt [])) := ((Gw.refl g3.i).mut hdt).mut (by rw [upd_ne htd.symm]; exact ht1)
  refine ⟨S, H3, t, dt, .ref p, ls, rfl, g3.i, gm, ht1, upd_same, hv, ht, fun S4 H4 g4 o4 => ⟨rfl, ?_⟩⟩
  have g5 := g3.trans g4
  have sq5 := g4.out q3 sq
  refine (val_var rfl) _ ⟨q, _, dx, _, rfl, g4.h _ _ q3, C, T.na_Asks_tally, by show 2 < 1000; decide, ?_⟩
  have g6 := g5.set (o := .ins (He.ga K "Asks") dx (putF "tally" (.ref t) (putF "wide" (.int (w : Nat)) (putF "tall" (.int (m : Nat)) [])))) h0 sq5
  have q6 : upd H4 q (.ins (He.ga K "Asks") dx (putF "tally" (.ref t) (putF "wide" (.int (w : Nat)) (putF "tall" (.int (m : Nat)) [])))) q = some (.ins (He.ga K "Asks") dx (putF "tally" (.ref t) (putF "wide" (.int (w : Nat)) (putF "tall" (.int (m : Nat)) [])))) := upd_same
  generalize upd H4 q (.ins (He.ga K "Asks") dx (putF "tally" (.ref t) (putF "wide" (.int (w : Nat)) (putF "tall" (.int (m : Nat)) [])))) = H6 at g6 q6
  have hp6 := g6.i _ _ (g4.s _ _ hp)
  refine x_doC (fld_C (c_cb (va_1 (val_var rfl)) ⟨p, natV ls, rfl, .inl (SqL.of hp6), fun l hl2 => ?_⟩))
  have g7 := g6.mut (o := .lst (natV ls)) hl2
  have q7 := upd_get (o := .lst (natV ls)) q6 hl2
  refine (val_var rfl) _ ⟨q, _, dx, _, rfl, q7, C, T.na_Asks_goals, by show 3 < 1000; decide, ?_⟩
  have g8 := g7.set (o := .ins (He.ga K "Asks") dx (putF "goals" (.ref l) (putF "tally" (.ref t) (putF "wide" (.int (w : Nat)) (putF "tall" (.int (m : Nat)) []))))) h0 sq5
  have q8 : upd (upd H6 l (.lst (natV ls))) q (.ins (He.ga K "Asks") dx (putF "goals" (.ref l) (putF "tally" (.ref t) (putF "wide" (.int (w : Nat)) (putF "tall" (.int (m : Nat)) []))))) q = some (.ins (He.ga K "Asks") dx (putF "goals" (.ref l) (putF "tally" (.ref t) (putF "wide" (.int (w : Nat)) (putF "tall" (.int (m : Nat)) []))))) := upd_same
  generalize upd (upd H6 l (.lst (natV ls))) q (.ins (He.ga K "Asks") dx (putF "goals" (.ref l) (putF "tally" (.ref t) (putF "wide" (.int (w : Nat)) (putF "tall" (.int (m : Nat)) []))))) = H8 at g8 q8
  refine fld_C (c_call (va_1 (val_var rfl)) ⟨S4, .ref p, ls, rfl, g8.i, hv.mono g4.s, ht, fun S9 H9 v9 g9 a9 => ?_⟩)
  have sq9 := g9.out q8 sq5
  refine (val_var rfl) _ ⟨q, _, dx, _, rfl, g9.h _ _ q8, C, T.na_Asks_starts, by show 4 < 1000; decide, ?_⟩
  have g10 := ((g8.trans g9).set (o := .ins (He.ga K "Asks") dx (asF (.int (m : Nat)) (.int (w : Nat)) (.ref t) (.ref l) v9)) h0 sq9).frz h0 sq9 upd_same
  have o4' := o4.mono (g9.s.trans (Ex.new (o := .ins (He.ga K "Asks") dx (asF (.int (m : Nat)) (.int (w : Nat)) (.ref t) (.ref l) v9)) sq9))
  rw [hl] at o4'
  exact k _ _ g10 ⟨dx, t, .ref l, v9, upd_same, o4', a9.mono (Ex.new sq9), by rw [opp_len, hl], by omega⟩
theorem ok_Asks_init (T : Txt w K mg) : Df P w K mg base 7 (He.ma K (He.ga K "Asks") "__init__") ["self", "lines", "many"] (sp_Asks_init K) :=
  df_of T.f_Asks_init sc_Asks_init (fun _ _ _ _ _ _ us hl => match us, hl with | [_, _, _], _ => rfl) (fun vs H Q E h => by
    obtain ⟨S, H0, q, dx, v, ls, m, w, rfl, _⟩ := h
    rfl) (fun cdv A outer s H E hr => w_Asks_init T cdv A outer s H E hr) (fun vs H Q E h => r_Asks_init T vs H Q E h)
end
end Pk
namespace Pk
open PySem PySem.Spec
open PyProof.Rows L2
open LamX NdefX
/-! ## asks_of -/
theorem sc_asks_of : FnScope ["side", "top"] ["side", "top"] (defScope s_asks_of) := ⟨rfl, rfl, rfl, by decide +kernel, rfl, by decide +kernel, by decide +kernel⟩
def sp_asks_of (K : PySem.W.Frag) : Sp := fun vs H Q _ => ∃ (a b : List Nat), vs = [.str (tx a), .str (tx b)] ∧ TabS H (bT K).2 lam_q ∧ RowP a ∧ RowP b ∧ ∀ S' H' q, Gw (fun _ => none) (offT H) S' H' → ObA K S' q a.length b.length (fin a b) → Q (.ref q) H'
def t_asks_of (K : PySem.W.Frag) : TS := (tRet (tMake (He.ga K "Asks") (sp_Asks_init K) [] E0 (tCons (tMeth (He.ga K "Board") "lines" (sp_Board_lines K) [] E0 (tMake (He.ga K "Board") (sp_Board_init K) [] E0 (tCons (tVar 0) (tCons (tVar 1) tNil))) tNil) (tCons (tCB cLenS (tCons (tVar 0) tNil)) tNil))))
section
variable {P : Program} {w : World} {K : PySem.W.Frag} {mg : Str → Option Value} {base : Heap}
theorem w_asks_of (T : Txt w K mg) (TB : TabB base mg (bT K).1 (bT K).2) (cdv : Value) (A : Around) (outer : List Env) (s : Shared) (H : Hp) (E : XK) (hr : Room 8 (A.deeper (envOfC "asks_of" (defScope s_asks_of) s.heap.objs.size (He.ga K "asks_of") cdv))) :
    PSs (cxOf CX0 P w K mg base ["side", "top"] "asks_of" (defScope s_asks_of) (He.ga K "asks_of") cdv A outer s H E).nox (defBody s_asks_of) (t_asks_of K) := by
  obtain ⟨⟨fd_Board_init, F_Board_init, b_Board_init⟩, k_Board_init⟩ := ok_Board_init (P := P) (base := base) T TB
  obtain ⟨⟨fd_Board_lines, F_Board_lines, b_Board_lines⟩, k_Board_lines⟩ := ok_Board_lines (P := P) (base := base) T
  obtain ⟨⟨fd_Asks_init, F_Asks_init, b_Asks_init⟩, k_Asks_init⟩ := ok_Asks_init (P := P) (base := base) T
  exact (pss_one (ps_ret (pe_make T.mk_Asks F_Asks_init (hr.mono (by decide)) (by exact rfl) T.g_Asks b_Asks_init .nil pass0 (pa_cons (pe_meth0 (pe_make T.mk_Board F_Board_init (hr.mono (by decide)) (by exact rfl) T.g_Board b_Board_init .nil pass0 (pa_cons (pv 0) (pa_cons (pv 1) pa_nil))) T.cl_Board T.me_Board_lines F_Board_lines (hr.mono (by decide)) b_Board_lines .nil pass0) (pa_cons (pe_callB cl_lenS (by exact rfl) T.n_len PySem.boot_len (pa_cons (pv 0) pa_nil)) pa_nil)))))
theorem r_asks_of (T : Txt w K mg) (vs : List V) (H : Hp) (Q : VK) (E : XK) (h : sp_asks_of K vs H Q E) : t_asks_of K { nx := fun _ H' => Q .non H', rt := Q } (start ["side", "top"] vs) H := by
  obtain ⟨a, b, rfl, htb, hra, hrb, k⟩ := h
  have za := hra.1
  have zb := hrb.1
  have ft := fin_turn za zb
  refine x_retC (c_makeC (cons_C (c_meth0C (c_make (va_2 (val_var rfl) (val_var rfl)) fun x dx h1 h2 h3 => ?_))))
  have gm : Gw (fun _ => none) (offT H) (fun _ => none) (upd (upd H dx (.own x)) x (.ins (He.ga K "Board") dx [])) := ((gw0 (offT_in H)).mut h2).mut (by rw [upd_ne h3.symm]; exact h1)
  have e0 : Ex H (upd (upd H dx (.own x)) x (.ins (He.ga K "Board") dx [])) := (Ex.new h2).trans (Ex.new (by rw [upd_ne h3.symm]; exact h1))
  refine ⟨H, x, dx, a, b, rfl, gm, h1, upd_same, htb.ext e0, hra, hrb, fun S1 H1 g1 o1 => ⟨rfl, ?_⟩⟩
  have o1' := o1
  obtain ⟨dx1, s1, t1, m1, p1, v1, hx, hv1⟩ := o1'
  refine ⟨x, _, _, rfl, g1.i _ _ hx, bo_lines _ _ _ _ _, S1, x, opp (fin a b), rfl, g1.i, o1, fun S2 H2 v2 g2 a2 => ?_⟩
  have g3 := g1.trans g2
  refine (va_1 (val_lenS (val_var rfl) (by omega))) _ fun y dy k1 k2 k3 => ?_
  have gy : Gw S2 H2 S2 (upd (upd H2 dy (.own y)) y (.ins (He.ga K "Asks") dy [])) := ((Gw.refl g2.i).mut k2).mut (by rw [upd_ne k3.symm]; exact k1)
  refine ⟨S2, H2, y, dy, v2, opp (fin a b), a.length, b.length, rfl, g2.i, gy, k1, upd_same, a2, ft.opp, by rw [opp_len, fin_len], fun S4 H4 g4 o4 => ⟨rfl, ?_⟩⟩
  rw [ft.opp_opp] at o4
  exact k _ _ y (g3.trans g4) o4
theorem ok_asks_of (T : Txt w K mg) (TB : TabB base mg (bT K).1 (bT K).2) : Df P w K mg base 9 (He.ga K "asks_of") ["side", "top"] (sp_asks_of K) :=
  df_of T.f_asks_of sc_asks_of (fun _ _ _ _ _ _ us hl => match us, hl with | [_, _], _ => rfl) (fun vs H Q E h => by
    obtain ⟨a, b, rfl, _⟩ := h
    rfl) (fun cdv A outer s H E hr => w_asks_of T TB cdv A outer s H E hr) (fun vs H Q E h => r_asks_of T vs H Q E h)
end
end Pk
namespace Pk
open PySem PySem.Spec
open PyProof.Rows L2
/-! ## need_span -/
theorem sc_need_span : FnScope ["begin", "end", "many"] ["begin", "end", "many"] (defScope s_need_span) := ⟨rfl, rfl, rfl, by decide +kernel, rfl, by decide +kernel, by decide +kernel⟩
def sp_need_span (K : PySem.W.Frag) : Sp := fun vs H Q _ => ∃ (b e n : Int), vs = [.int b, .int e, .int n] ∧ 0 ≤ b ∧ b ≤ e ∧ e ≤ n ∧ Q .non H
def t_need_span (K : PySem.W.Frag) : TS := (tIfS (tOr (tNot (tB (tCall (sp_is_within K) [] E0 (tCons (tVar 0) (tCons (tC (.int 0)) (tCons (tVar 2) tNil)))))) (tNot (tB (tCall (sp_is_within K) [] E0 (tCons (tVar 1) (tCons (tVar 0) (tCons (tVar 2) tNil))))))) tNever tNext)
section
variable {P : Program} {w : World} {K : PySem.W.Frag} {mg : Str → Option Value} {base : Heap}
theorem w_need_span (T : Txt w K mg) (cdv : Value) (A : Around) (outer : List Env) (s : Shared) (H : Hp) (E : XK) (hr : Room 2 (A.deeper (envOfC "need_span" (defScope s_need_span) s.heap.objs.size (He.ga K "need_span") cdv))) :
    PSs (cxOf CX0 P w K mg base ["begin", "end", "many"] "need_span" (defScope s_need_span) (He.ga K "need_span") cdv A outer s H E).nox (defBody s_need_span) (t_need_span K) := by
  obtain ⟨⟨fd_is_within, F_is_within, b_is_within⟩, k_is_within⟩ := ok_is_within (P := P) (base := base) T
  exact (pss_one (ps_if (PW.pt (pw_or (pt_not (pt_val (pe_call F_is_within (hr.mono (by decide)) (by exact rfl) T.g_is_within k_is_within b_is_within .nil pass0 (pa_cons (pv 0) (pa_cons pe_int (pa_cons (pv 2) pa_nil)))))) (pw_or1 (pt_not (pt_val (pe_call F_is_within (hr.mono (by decide)) (by exact rfl) T.g_is_within k_is_within b_is_within .nil pass0 (pa_cons (pv 1) (pa_cons (pv 0) (pa_cons (pv 2) pa_nil))))))))) (pss_one ps_never) pss_nil))
theorem r_need_span (T : Txt w K mg) (vs : List V) (H : Hp) (Q : VK) (E : XK) (h : sp_need_span K vs H Q E) : t_need_span K { nx := fun _ H' => Q .non H', rt := Q } (start ["begin", "end", "many"] vs) H := by
  obtain ⟨b, e, n, rfl, h1, h2, h3, k⟩ := h
  refine y_no (ans_orW (a := false) (b := false) (Ans.to (ans_not (ans_val (val_call (v := .bl true) (va_3 (val_var rfl) val_c (val_var rfl)) fun Q q => ⟨b, 0, n, rfl, ?_⟩))) rfl) fun _ => Ans.to (ans_not (ans_val (val_call (v := .bl true) (va_3 (val_var rfl) (val_var rfl) (val_var rfl)) fun Q q => ⟨e, b, n, rfl, ?_⟩))) rfl) k
  · rw [decide_eq_true h1, decide_eq_true (by omega)]; exact q
  · rw [decide_eq_true h2, decide_eq_true h3]; exact q
theorem ok_need_span (T : Txt w K mg) : Df P w K mg base 3 (He.ga K "need_span") ["begin", "end", "many"] (sp_need_span K) :=
  df_of T.f_need_span sc_need_span (fun _ _ _ _ _ _ us hl => match us, hl with | [_, _, _], _ => rfl) (fun vs H Q E h => by
    obtain ⟨b, e, n, rfl, _⟩ := h
    rfl) (fun cdv A outer s H E hr => w_need_span T cdv A outer s H E hr) (fun vs H Q E h => r_need_span T vs H Q E h)
end
end Pk
namespace Pk
open PySem PySem.Spec
open PyProof.Rows L2
/-! ## need_window -/
theorem sc_need_window : FnScope ["tall", "wide", "spans", "first", "last", "begin", "end", "starts", "stops"] ["tall", "wide", "spans"] (defScope s_need_window) := ⟨rfl, rfl, rfl, by decide +kernel, rfl, by decide +kernel, by decide +kernel⟩
def sp_need_window (K : PySem.W.Frag) : Sp := fun vs H Q _ => ∃ (p : Addr) (t w a b c d : Int), vs = [.int t, .int w, .ref p] ∧ H p = some (.tup [.int a, .int b, .int c, .int d]) ∧ 0 ≤ a ∧ a ≤ b ∧ b ≤ t ∧ 0 ≤ c ∧ c ≤ d ∧ d ≤ w ∧ (a = 0 ∨ c = 0) ∧ (b = t ∨ d = w) ∧ Q .non H
def t_need_window (K : PySem.W.Frag) : TS := (tSeq (tAsg (tVar 2) (gTup K 4 (gCons (gName 3) (gCons (gName 4) (gCons (gName 5) (gCons (gName 6) gNil))))))
  (tSeq (tDrop (tCall (sp_need_span K) [] E0 (tCons (tVar 3) (tCons (tVar 4) (tCons (tVar 0) tNil)))))
  (tSeq (tDrop (tCall (sp_need_span K) [] E0 (tCons (tVar 5) (tCons (tVar 6) (tCons (tVar 1) tNil)))))
  (tSeq (tAsg (tOrV (tOp rEq (tVar 3) (tC (.int 0))) (tOp rEq (tVar 5) (tC (.int 0)))) (gName 7))
  (tSeq (tAsg (tOrV (tOp rEq (tVar 4) (tVar 0)) (tOp rEq (tVar 6) (tVar 1))) (gName 8))
  (tIfS (tOr (tNot (tB (tVar 7))) (tNot (tB (tVar 8)))) tNever tNext))))))
section
variable {P : Program} {w : World} {K : PySem.W.Frag} {mg : Str → Option Value} {base : Heap}
theorem w_need_window (T : Txt w K mg) (cdv : Value) (A : Around) (outer : List Env) (s : Shared) (H : Hp) (E : XK) (hr : Room 3 (A.deeper (envOfC "need_window" (defScope s_need_window) s.heap.objs.size (He.ga K "need_window") cdv))) :
    PSs (cxOf CX0 P w K mg base ["tall", "wide", "spans", "first", "last", "begin", "end", "starts", "stops"] "need_window" (defScope s_need_window) (He.ga K "need_window") cdv A outer s H E).nox (defBody s_need_window) (t_need_window K) := by
  obtain ⟨⟨fd_need_span, F_need_span, b_need_span⟩, k_need_span⟩ := ok_need_span (P := P) (base := base) T
  exact (pss_cons (ps_asg (pv 2) (pg_tup rfl (pgs_cons (pg_name (i := 3) sc_need_window.nd rfl (Or.inl rfl)) (pgs_cons (pg_name (i := 4) sc_need_window.nd rfl (Or.inl rfl)) (pgs_cons (pg_name (i := 5) sc_need_window.nd rfl (Or.inl rfl)) (pgs_cons (pg_name (i := 6) sc_need_window.nd rfl (Or.inl rfl)) pgs_nil))))))
  (pss_cons (ps_expr (pe_call F_need_span (hr.mono (by decide)) (by exact rfl) T.g_need_span k_need_span b_need_span .nil pass0 (pa_cons (pv 3) (pa_cons (pv 4) (pa_cons (pv 0) pa_nil)))))
  (pss_cons (ps_expr (pe_call F_need_span (hr.mono (by decide)) (by exact rfl) T.g_need_span k_need_span b_need_span .nil pass0 (pa_cons (pv 5) (pa_cons (pv 6) (pa_cons (pv 1) pa_nil)))))
  (pss_cons (ps_set (i := 7) sc_need_window.nd rfl (Or.inl rfl) (pe_or (pe_cmpR op_eq (pv 3) pe_int (nomark _)) (pe_one (pe_cmpR op_eq (pv 5) pe_int (nomark _)))))
  (pss_cons (ps_set (i := 8) sc_need_window.nd rfl (Or.inl rfl) (pe_or (pe_cmpR op_eq (pv 4) (pv 0) (nomark _)) (pe_one (pe_cmpR op_eq (pv 6) (pv 1) (nomark _)))))
  (pss_one (ps_if (PW.pt (pw_or (pt_not (pt_val (pv 7))) (pw_or1 (pt_not (pt_val (pv 8)))))) (pss_one ps_never) pss_nil)))))))
theorem r_need_window (T : Txt w K mg) (vs : List V) (H : Hp) (Q : VK) (E : XK) (h : sp_need_window K vs H Q E) : t_need_window K { nx := fun _ H' => Q .non H', rt := Q } (start ["tall", "wide", "spans", "first", "last", "begin", "end", "starts", "stops"] vs) H := by
  obtain ⟨p, t, w, a, b, c, d, rfl, hp, h1, h2, h3, h4, h5, h6, h7, h8, k⟩ := h
  refine x_setT ⟨_, rfl, p, _, rfl, SqT.of hp, rfl, _, _, rfl, _, _, rfl, _, _, rfl, _, _, rfl, rfl, ?_⟩
  refine x_dropC (c_call (va_3 (val_var rfl) (val_var rfl) (val_var rfl)) ⟨a, b, t, rfl, h1, h2, h3, ?_⟩)
  refine x_dropC (c_call (va_3 (val_var rfl) (val_var rfl) (val_var rfl)) ⟨c, d, w, rfl, h4, h5, h6, ?_⟩)
  refine x_set (v := .bl true) (val_bl (val_orV (val_eq (val_var rfl) val_c rfl) fun _ => val_eq (val_var rfl) val_c rfl) ?_) ?_
  · rcases h7 with q | q <;> simp [q]
  refine x_set (v := .bl true) (val_bl (val_orV (val_eq (val_var rfl) (val_var rfl) rfl) fun _ => val_eq (val_var rfl) (val_var rfl) rfl) ?_) ?_
  · rcases h8 with q | q <;> simp [q]
  exact y_no (Ans.to (ans_orW (ans_not (ans_val (val_var rfl))) fun _ => ans_not (ans_val (val_var rfl))) rfl) k
theorem ok_need_window (T : Txt w K mg) : Df P w K mg base 4 (He.ga K "need_window") ["tall", "wide", "spans"] (sp_need_window K) :=
  df_of T.f_need_window sc_need_window (fun _ _ _ _ _ _ us hl => match us, hl with | [_, _, _], _ => rfl) (fun vs H Q E h => by
    obtain ⟨p, t, w, a, b, c, d, rfl, _⟩ := h
    rfl) (fun cdv A outer s H E hr => w_need_window T cdv A outer s H E hr) (fun vs H Q E h => r_need_window T vs H Q E h)
end
end Pk
namespace Pk
open PySem PySem.Spec
open PyProof.Rows L2
/-! ## lesser -/
theorem sc_lesser : FnScope ["block", "end", "low", "high", "amid"] ["block", "end"] (defScope s_lesser) := ⟨rfl, rfl, rfl, by decide +kernel, rfl, by decide +kernel, by decide +kernel⟩
def sp_lesser (K : PySem.W.Frag) : Sp := fun vs H Q _ => ∃ (p : Addr) (ns : List Int) (e : Int), vs = [.ref p, .int e] ∧ H p = some (.lst (ns.map V.int)) ∧ ns.length ≤ 1000 ∧ ∀ r : Int, 0 ≤ r → ((∀ z ∈ ns, e ≤ z) → r = 0) → Q (.int r) H
def t_lesser (K : PySem.W.Frag) : TS := (tSeq (tAsg (tC (.int 0)) (gName 2))
  (tSeq (tAsg (tCB (cLenL K) (tCons (tVar 0) tNil)) (gName 3))
  (tSeq (tWhile (tTest (tOp oLt (tVar 2) (tVar 3))) (tSeq (tAsg (tOp oFdv (tOp oAdd (tVar 2) (tVar 3)) (tC (.int 2))) (gName 4))
  (tIfS (tTest (tOp oLt (tOp (rIxL K) (tVar 0) (tVar 4)) (tVar 1))) (tAsg (tOp oAdd (tVar 4) (tC (.int 1))) (gName 2)) (tAsg (tVar 4) (gName 3)))))
  (tRet (tVar 2)))))
section
variable {P : Program} {w : World} {K : PySem.W.Frag} {mg : Str → Option Value} {base : Heap}
theorem w_lesser (T : Txt w K mg) (cdv : Value) (A : Around) (outer : List Env) (s : Shared) (H : Hp) (E : XK) (hr : Room 0 (A.deeper (envOfC "lesser" (defScope s_lesser) s.heap.objs.size (He.ga K "lesser") cdv))) :
    PSs (cxOf CX0 P w K mg base ["block", "end", "low", "high", "amid"] "lesser" (defScope s_lesser) (He.ga K "lesser") cdv A outer s H E).nox (defBody s_lesser) (t_lesser K) := by
  exact (pss_cons (ps_set (i := 2) sc_lesser.nd rfl (Or.inl rfl) pe_int)
  (pss_cons (ps_set (i := 3) sc_lesser.nd rfl (Or.inl rfl) (pe_callB cl_lenL (by exact rfl) T.n_len PySem.boot_len (pa_cons (pv 0) pa_nil)))
  (pss_cons (ps_while PassesOwn.never (pt_cmpR op_lt (pv 2) (pv 3) (nomark _)) (pss_cons (ps_set (i := 4) sc_lesser.nd rfl (Or.inl rfl) (pe_op op_fdiv (pe_op op_add (pv 2) (pv 3)) pe_int))
  (pss_one (ps_if (pt_cmpR op_lt (pe_ix ix_list (pv 0) (pv 4) (fun _ _ => rfl)) (pv 1) (nomark _)) (pss_one (ps_set (i := 2) sc_lesser.nd rfl (Or.inl rfl) (pe_op op_add (pv 4) pe_int))) (pss_one (ps_set (i := 3) sc_lesser.nd rfl (Or.inl rfl) (pv 4)))))))
  (pss_one (ps_ret (pv 2))))))
theorem r_lesser (T : Txt w K mg) (vs : List V) (H : Hp) (Q : VK) (E : XK) (h : sp_lesser K vs H Q E) : t_lesser K { nx := fun _ H' => Q .non H', rt := Q } (start ["block", "end", "low", "high", "amid"] vs) H := by
  obtain ⟨p, ns, e, rfl, hp, zl, k⟩ := h
  refine x_set val_c (x_set (val_lenL (val_var rfl) hp) ?_)
  rw [List.length_map]
  refine x_while (fun m σ' H' => H' = H ∧ ∃ (lo hi : Nat) (z : Option V), σ' = [some (.ref p), some (.int e), some (.int (lo : Int)), some (.int (hi : Int)), z] ∧ hi ≤ ns.length ∧ ((∀ z ∈ ns, e ≤ z) → lo = 0) ∧ m = hi - lo) ns.length ⟨rfl, 0, ns.length, none, rfl, Nat.le_refl _, fun _ => rfl, rfl⟩ ?_
  rintro m σ' H' ⟨rfl, lo, hi, z, rfl, hh, h0, rfl⟩
  refine ⟨decide (lo < hi), Ans.to (ans_te (val_I0 (val_var rfl) (val_var rfl))) (decide_eq_decide.mpr (by omega)), fun hb => ?_, fun hb => ?_⟩
  · have hb := of_decide_eq_true hb
    refine ⟨_, fun _ _ q => q, ?_⟩
    have hm : (lo + hi) / 2 < ns.length := by omega
    have hg := List.getElem?_eq_getElem hm
    refine x_set (v := .int (((lo + hi) / 2 : Nat) : Int)) (val_is (val_I (i := (lo : Int) + (hi : Int)) (j := 2) (val_I0 (val_var rfl) (val_var rfl)) val_c ?_) (by congr 1)) ?_
    · exact ⟨by decide, by decide⟩
    refine y_if (b := decide (ns[(lo + hi) / 2] < e)) (ans_te (val_I0 (val_ixL (val_var rfl) (val_var rfl) hp (at_nat rfl (map_get hg))) (val_var rfl))) (fun hc => y_set (v := .int (((lo + hi) / 2 + 1 : Nat) : Int)) (val_is (val_I0 (val_var rfl) val_c) (by congr 1)) ?_) (fun hc => y_set (val_var rfl) ?_)
    · refine ⟨_, ?_, rfl, (lo + hi) / 2 + 1, hi, _, rfl, hh, fun q => ?_, rfl⟩
      · omega
      · have := q _ (List.getElem_mem hm)
        have := of_decide_eq_true hc
        omega
    · refine ⟨_, ?_, rfl, lo, (lo + hi) / 2, _, rfl, by omega, h0, rfl⟩
      omega
  · exact x_ret (val_var rfl) (k _ (by omega) fun q => by rw [h0 q]; rfl)
theorem ok_lesser (T : Txt w K mg) : Df P w K mg base 1 (He.ga K "lesser") ["block", "end"] (sp_lesser K) :=
  df_of T.f_lesser sc_lesser (fun _ _ _ _ _ _ us hl => match us, hl with | [_, _], _ => rfl) (fun vs H Q E h => by
    obtain ⟨p, ns, e, rfl, _⟩ := h
    rfl) (fun cdv A outer s H E hr => w_lesser T cdv A outer s H E hr) (fun vs H Q E h => r_lesser T vs H Q E h)
end
end Pk
namespace Pk
open PySem PySem.Spec
open PyProof.Rows L2
/-! ## Tally.from_on -/
theorem sc_Tally_from_on : FnScope ["self", "begin", "end", "total", "at", "floor"] ["self", "begin", "end"] (defScope s_Tally_from_on) := ⟨rfl, rfl, rfl, by decide +kernel, rfl, by decide +kernel, by decide +kernel⟩
def sp_Tally_from_on (K : PySem.W.Frag) : Sp := fun vs H Q _ => ∃ (S : Hp) (q : Addr) (n b e : Int), vs = [.ref q, .int b, .int e] ∧ Ex S H ∧ ObT K S q n ∧ 0 ≤ b ∧ ∀ r : Int, 0 ≤ r → (e = 0 → r = 0) → Q (.int r) H
def t_Tally_from_on (K : PySem.W.Frag) : TS := (tSeq (tAsg (tC (.int 0)) (gName 3))
  (tSeq (tAsg (tVar 1) (gName 4))
  (tSeq (tFor (iList K (tFld K (tVar 0) "floors")) (gName 5) (tSeq (tIfS (tTest (tOp oGe (tVar 4) (tCB (cLenL K) (tCons (tVar 5) tNil)))) (tRet (tVar 3)) tNext)
  (tSeq (tIfS (tOr (tTest (tOp rEq (tOp oMod (tVar 4) (tC (.int 2))) (tC (.int 1)))) (tTest (tOp rEq (tCB (cLenL K) (tCons (tVar 5) tNil)) (tC (.int 1))))) (tSeq (tAug 3 (tCall (sp_lesser K) [] E0 (tCons (tOp (rIxL K) (tVar 5) (tVar 4)) (tCons (tVar 2) tNil))) (ipI fun i j => i + j))
  (tAug 4 (tC (.int 1)) (ipI fun i j => i + j))) tNext)
  (tAsg (tOp oFdv (tVar 4) (tC (.int 2))) (gName 4)))))
  (tRet (tVar 3)))))
section
variable {P : Program} {w : World} {K : PySem.W.Frag} {mg : Str → Option Value} {base : Heap}
theorem w_Tally_from_on (T : Txt w K mg) (cdv : Value) (A : Around) (outer : List Env) (s : Shared) (H : Hp) (E : XK) (hr : Room 1 (A.deeper (envOfC "Tally.from_on" (defScope s_Tally_from_on) s.heap.objs.size (He.ma K (He.ga K "Tally") "from_on") cdv))) :
    PSs (cxOf CX0 P w K mg base ["self", "begin", "end", "total", "at", "floor"] "Tally.from_on" (defScope s_Tally_from_on) (He.ma K (He.ga K "Tally") "from_on") cdv A outer s H E).nox (defBody s_Tally_from_on) (t_Tally_from_on K) := by
  obtain ⟨⟨fd_lesser, F_lesser, b_lesser⟩, k_lesser⟩ := ok_lesser (P := P) (base := base) T
  exact (pss_cons (ps_set (i := 3) sc_Tally_from_on.nd rfl (Or.inl rfl) pe_int)
  (pss_cons (ps_set (i := 4) sc_Tally_from_on.nd rfl (Or.inl rfl) (pv 1))
  (pss_cons (ps_for PassesOwn.never rfl (pi_list (pe_fld (pv 0) rfl)) (pg_name (i := 5) sc_Tally_from_on.nd rfl (Or.inl rfl)) (pss_cons (ps_if (pt_cmpR op_ge (pv 4) (pe_callB cl_lenL (by exact rfl) T.n_len PySem.boot_len (pa_cons (pv 5) pa_nil)) (nomark _)) (pss_one (ps_ret (pv 3))) pss_nil)
  (pss_cons (ps_if (PW.pt (pw_or (pt_cmpR op_eq (pe_op op_mod (pv 4) pe_int) pe_int (nomark _)) (pw_or1 (pt_cmpR op_eq (pe_callB cl_lenL (by exact rfl) T.n_len PySem.boot_len (pa_cons (pv 5) pa_nil)) pe_int (nomark _))))) (pss_cons (ps_aug (i := 3) sc_Tally_from_on.nd rfl (Or.inl rfl) (pe_call F_lesser (hr.mono (by decide)) (by exact rfl) T.g_lesser k_lesser b_lesser .nil pass0 (pa_cons (pe_ix ix_list (pv 5) (pv 4) (fun _ _ => rfl)) (pa_cons (pv 2) pa_nil))) ip_add)
  (pss_one (ps_aug (i := 4) sc_Tally_from_on.nd rfl (Or.inl rfl) pe_int ip_add))) pss_nil)
  (pss_one (ps_set (i := 4) sc_Tally_from_on.nd rfl (Or.inl rfl) (pe_op op_fdiv (pv 4) pe_int))))))
  (pss_one (ps_ret (pv 3))))))
theorem r_Tally_from_on (T : Txt w K mg) (vs : List V) (H : Hp) (Q : VK) (E : XK) (h : sp_Tally_from_on K vs H Q E) : t_Tally_from_on K { nx := fun _ H' => Q .non H', rt := Q } (start ["self", "begin", "end", "total", "at", "floor"] vs) H := by
  obtain ⟨S, q, n, b, e, rfl, eS, ⟨dx, v, fs, hq, hv, hg⟩, hb, k⟩ := h
  obtain ⟨p, vs, rfl, hp, hA⟩ := hv.lst_
  refine x_set val_c (x_set (val_var rfl) ?_)
  refine x_forL (K := K) (a := p) (xs := vs) (val_fld (val_var rfl) (eS _ _ hq) T.cl_Tally T.na_Tally_floors (ty_floors _ _)) (SqL.of (eS _ _ hp)) (fun m σ' H' => H' = H ∧ ∃ (t a : Int) (z : Option V), σ' = [some (.ref q), some (.int b), some (.int e), some (.int t), some (.int a), z] ∧ 0 ≤ t ∧ (e = 0 → t = 0) ∧ 0 ≤ a) ⟨rfl, 0, b, none, rfl, Int.le_refl _, fun _ => rfl, hb⟩ (fun m σ' H' h => by rw [h.1]; exact SqL.of (eS _ _ hp)) ?_ ?_
  · rintro m y σ' H' hy ⟨rfl, t, a, z, rfl, ht, ht0, ha⟩
    obtain ⟨f, hf, hat⟩ := hA.getM hy
    obtain ⟨pf, us, rfl, hpf, hU⟩ := hat.lst_
    have hul := hU.lenM
    have hpf' := eS _ _ hpf
    have gf := hg f (List.mem_of_getElem? hf)
    refine x_when (b := decide ((f.length : Int) ≤ a)) (Ans.to (ans_te (val_I0 (val_var rfl) (val_lenL (val_var rfl) hpf'))) (by rw [hul])) (fun _ => x_ret (val_var rfl) (k t ht ht0)) (fun hb => ?_)
    have hal : a < (f.length : Int) := by have := of_decide_eq_false hb; omega
    obtain ⟨blk, hblk⟩ : ∃ blk, f[a.toNat]? = some blk := ⟨_, List.getElem?_eq_getElem (by omega)⟩
    obtain ⟨vb, hvb, atb⟩ := hU.getF hblk
    obtain ⟨pb, rfl, hpb⟩ := atb.il_
    have gb := gf.2 blk (List.mem_of_getElem? hblk)
    have fin : ∀ (t2 a2 : Int) (z : Option V), 0 ≤ t2 → (e = 0 → t2 = 0) → 0 ≤ a2 → ∀ (D : Ends), (∀ (t a : Int) (z : Option V), 0 ≤ t → (e = 0 → t = 0) → 0 ≤ a → D.nx [some (.ref q), some (.int b), some (.int e), some (.int t), some (.int a), z] H') → tAsg (tOp oFdv (tVar 4) (tC (.int 2))) (gName 4) D [some (.ref q), some (.int b), some (.int e), some (.int t2), some (.int a2), z] H' := fun t2 a2 z h1 h2 h3 D hD => y_set (val_I (val_var rfl) val_c ⟨by decide, by decide⟩) (hD t2 (a2 / 2) z h1 h2 (by omega))
    refine x_when (ans_orW (a := decide (a % 2 = 1)) (b := decide (f.length = 1)) (Ans.to (ans_te (val_eq (val_I (val_var rfl) val_c (by decide)) val_c rfl)) (decide_eq_decide.mpr ⟨fun q => V.int.inj q, fun q => by rw [q]⟩)) (fun _ => Ans.to (ans_te (val_eq (val_lenL (val_var rfl) hpf') val_c rfl)) (by rw [hul]; exact decide_eq_decide.mpr ⟨fun q => by have := V.int.inj q; omega, fun q => by rw [q]; rfl⟩))) (fun _ => ?_) (fun _ => ?_)
    · refine x_doC ⟨_, rfl, ?_⟩
      refine c_call (va_2 (val_ixL (val_var rfl) (val_var rfl) hpf' (at_nat (j := a.toNat) (by omega) hvb)) (val_var rfl)) ⟨pb, blk, e, rfl, eS _ _ hpb, gb.1, fun r hr hr0 => ⟨t, r, rfl, rfl, ?_⟩⟩
      refine y_augI (f := fun i j => i + j) rfl val_c ?_
      exact fin (t + r) (a + 1) _ (by omega) (fun q => by rw [ht0 q, hr0 (fun z hz => by rw [q]; exact gb.2 z hz)]; rfl) (by omega) _ fun t a z h1 h2 h3 => ⟨rfl, t, a, z, rfl, h1, h2, h3⟩
    · exact fin t a _ ht ht0 ha _ fun t a z h1 h2 h3 => ⟨rfl, t, a, z, rfl, h1, h2, h3⟩
  · rintro σ' H' ⟨rfl, t, a, z, rfl, ht, ht0, ha⟩
    exact x_ret (val_var rfl) (k t ht ht0)
theorem ok_Tally_from_on (T : Txt w K mg) : Df P w K mg base 2 (He.ma K (He.ga K "Tally") "from_on") ["self", "begin", "end"] (sp_Tally_from_on K) :=
  df_of T.f_Tally_from_on sc_Tally_from_on (fun _ _ _ _ _ _ us hl => match us, hl with | [_, _, _], _ => rfl) (fun vs H Q E h => by
    obtain ⟨S, q, n, b, e, rfl, _⟩ := h
    rfl) (fun cdv A outer s H E hr => w_Tally_from_on T cdv A outer s H E hr) (fun vs H Q E h => r_Tally_from_on T vs H Q E h)
end
end Pk
namespace Pk
open PySem PySem.Spec
open PyProof.Rows L2
/-! ## Tally.below -/
theorem sc_Tally_below : FnScope ["self", "begin", "end"] ["self", "begin", "end"] (defScope s_Tally_below) := ⟨rfl, rfl, rfl, by decide +kernel, rfl, by decide +kernel, by decide +kernel⟩
def sp_Tally_below (K : PySem.W.Frag) : Sp := fun vs H Q _ => ∃ (S : Hp) (q : Addr) (n b e : Int), vs = [.ref q, .int b, .int e] ∧ Ex S H ∧ ObT K S q n ∧ 0 ≤ b ∧ b ≤ n ∧ 0 ≤ e ∧ e ≤ n ∧ ∀ r : Int, 0 ≤ r → (e = 0 → r = 0) → Q (.int r) H
def t_Tally_below (K : PySem.W.Frag) : TS := (tSeq (tDrop (tCall (sp_need_place K) [] E0 (tCons (tVar 1) (tCons (tFld K (tVar 0) "many") tNil))))
  (tSeq (tDrop (tCall (sp_need_place K) [] E0 (tCons (tVar 2) (tCons (tFld K (tVar 0) "many") tNil))))
  (tRet (tMeth (He.ga K "Tally") "from_on" (sp_Tally_from_on K) [] E0 (tVar 0) (tCons (tVar 1) (tCons (tVar 2) tNil))))))
section
variable {P : Program} {w : World} {K : PySem.W.Frag} {mg : Str → Option Value} {base : Heap}
theorem w_Tally_below (T : Txt w K mg) (cdv : Value) (A : Around) (outer : List Env) (s : Shared) (H : Hp) (E : XK) (hr : Room 3 (A.deeper (envOfC "Tally.below" (defScope s_Tally_below) s.heap.objs.size (He.ma K (He.ga K "Tally") "below") cdv))) :
    PSs (cxOf CX0 P w K mg base ["self", "begin", "end"] "Tally.below" (defScope s_Tally_below) (He.ma K (He.ga K "Tally") "below") cdv A outer s H E).nox (defBody s_Tally_below) (t_Tally_below K) := by
  obtain ⟨⟨fd_need_place, F_need_place, b_need_place⟩, k_need_place⟩ := ok_need_place (P := P) (base := base) T
  obtain ⟨⟨fd_Tally_from_on, F_Tally_from_on, b_Tally_from_on⟩, k_Tally_from_on⟩ := ok_Tally_from_on (P := P) (base := base) T
  exact (pss_cons (ps_expr (pe_call F_need_place (hr.mono (by decide)) (by exact rfl) T.g_need_place k_need_place b_need_place .nil pass0 (pa_cons (pv 1) (pa_cons (pe_fld (pv 0) rfl) pa_nil))))
  (pss_cons (ps_expr (pe_call F_need_place (hr.mono (by decide)) (by exact rfl) T.g_need_place k_need_place b_need_place .nil pass0 (pa_cons (pv 2) (pa_cons (pe_fld (pv 0) rfl) pa_nil))))
  (pss_one (ps_ret (pe_meth (pv 0) T.cl_Tally T.me_Tally_from_on F_Tally_from_on (hr.mono (by decide)) b_Tally_from_on .nil pass0 (pa_cons (pv 1) (pa_cons (pv 2) pa_nil)))))))
theorem r_Tally_below (T : Txt w K mg) (vs : List V) (H : Hp) (Q : VK) (E : XK) (h : sp_Tally_below K vs H Q E) : t_Tally_below K { nx := fun _ H' => Q .non H', rt := Q } (start ["self", "begin", "end"] vs) H := by
  obtain ⟨S, q, n, b, e, rfl, eS, hob, h1, h2, h3, h4, k⟩ := h
  have hob2 := hob
  obtain ⟨dx, v, fs, hq, hv, hg⟩ := hob2
  have many : Val (tFld K (tVar 0) "many") [some (.ref q), some (.int b), some (.int e)] H (.int n) := val_fld (val_var rfl) (eS _ _ hq) T.cl_Tally T.na_Tally_many (ty_many _ _)
  refine x_dropC (c_call (va_2 (val_var rfl) many) ⟨b, n, rfl, h1, h2, ?_⟩)
  refine x_dropC (c_call (va_2 (val_var rfl) many) ⟨e, n, rfl, h3, h4, ?_⟩)
  exact x_retC (c_meth (val_var rfl) (eS _ _ hq) (ty_from _ _) (va_2 (val_var rfl) (val_var rfl)) ⟨S, q, n, b, e, rfl, eS, hob, h1, k⟩)
theorem ok_Tally_below (T : Txt w K mg) : Df P w K mg base 4 (He.ma K (He.ga K "Tally") "below") ["self", "begin", "end"] (sp_Tally_below K) :=
  df_of T.f_Tally_below sc_Tally_below (fun _ _ _ _ _ _ us hl => match us, hl with | [_, _, _], _ => rfl) (fun vs H Q E h => by
    obtain ⟨S, q, n, b, e, rfl, _⟩ := h
    rfl) (fun cdv A outer s H E hr => w_Tally_below T cdv A outer s H E hr) (fun vs H Q E h => r_Tally_below T vs H Q E h)
end
end Pk
namespace Pk
open PySem PySem.Spec
open PyProof.Rows L2
/-! ## Asks.window -/
theorem sc_Asks_window : FnScope ["self", "first", "last", "begin", "end"] ["self", "first", "last", "begin", "end"] (defScope s_Asks_window) := ⟨rfl, rfl, rfl, by decide +kernel, rfl, by decide +kernel, by decide +kernel⟩
def sp_Asks_window (K : PySem.W.Frag) : Sp := fun vs H Q _ => ∃ (S : Hp) (q : Addr) (m w : Nat) (st : List Nat) (a b c d : Int), vs = [.ref q, .int a, .int b, .int c, .int d] ∧ Ex S H ∧ ObA K S q m w st ∧ 0 ≤ a ∧ a ≤ b ∧ b ≤ (m : Nat) ∧ 0 ≤ c ∧ c ≤ d ∧ d ≤ (w : Nat) ∧ (a = 0 ∨ c = 0) ∧ (b = (m : Nat) ∨ d = (w : Nat)) ∧ ∀ (r : Int) (H' : Hp), Ex H H' → 0 ≤ r → ((m : Nat) - b + d = 0 → r = 0) → Q (.int (d - c - r)) H'
def t_Asks_window (K : PySem.W.Frag) : TS := (tSeq (tDrop (tCall (sp_need_window K) [] E0 (tCons (tFld K (tVar 0) "tall") (tCons (tFld K (tVar 0) "wide") (tCons (tTup (tCons (tVar 1) (tCons (tVar 2) (tCons (tVar 3) (tCons (tVar 4) tNil))))) tNil)))))
  (tRet (tOp oSub (tOp oSub (tVar 4) (tVar 3)) (tMeth (He.ga K "Tally") "below" (sp_Tally_below K) [] E0 (tFld K (tVar 0) "tally") (tCons (tOp oAdd (tOp oSub (tFld K (tVar 0) "tall") (tVar 1)) (tVar 3)) (tCons (tOp oAdd (tOp oSub (tFld K (tVar 0) "tall") (tVar 2)) (tVar 4)) tNil))))))
section
variable {P : Program} {w : World} {K : PySem.W.Frag} {mg : Str → Option Value} {base : Heap}
theorem w_Asks_window (T : Txt w K mg) (cdv : Value) (A : Around) (outer : List Env) (s : Shared) (H : Hp) (E : XK) (hr : Room 4 (A.deeper (envOfC "Asks.window" (defScope s_Asks_window) s.heap.objs.size (He.ma K (He.ga K "Asks") "window") cdv))) :
    PSs (cxOf CX0 P w K mg base ["self", "first", "last", "begin", "end"] "Asks.window" (defScope s_Asks_window) (He.ma K (He.ga K "Asks") "window") cdv A outer s H E).nox (defBody s_Asks_window) (t_Asks_window K) := by
  obtain ⟨⟨fd_need_window, F_need_window, b_need_window⟩, k_need_window⟩ := ok_need_window (P := P) (base := base) T
  obtain ⟨⟨fd_Tally_below, F_Tally_below, b_Tally_below⟩, k_Tally_below⟩ := ok_Tally_below (P := P) (base := base) T
  exact (pss_cons (ps_expr (pe_call F_need_window (hr.mono (by decide)) (by exact rfl) T.g_need_window k_need_window b_need_window .nil pass0 (pa_cons (pe_fld (pv 0) rfl) (pa_cons (pe_fld (pv 0) rfl) (pa_cons (pe_tup (pa_cons (pv 1) (pa_cons (pv 2) (pa_cons (pv 3) (pa_cons (pv 4) pa_nil))))) pa_nil)))))
  (pss_one (ps_ret (pe_op op_sub (pe_op op_sub (pv 4) (pv 3)) (pe_meth (pe_fld (pv 0) rfl) T.cl_Tally T.me_Tally_below F_Tally_below (hr.mono (by decide)) b_Tally_below .nil pass0 (pa_cons (pe_op op_add (pe_op op_sub (pe_fld (pv 0) rfl) (pv 1)) (pv 3)) (pa_cons (pe_op op_add (pe_op op_sub (pe_fld (pv 0) rfl) (pv 2)) (pv 4)) pa_nil)))))))
theorem r_Asks_window (T : Txt w K mg) (vs : List V) (H : Hp) (Q : VK) (E : XK) (h : sp_Asks_window K vs H Q E) : t_Asks_window K { nx := fun _ H' => Q .non H', rt := Q } (start ["self", "first", "last", "begin", "end"] vs) H := by
  obtain ⟨S, q, m, w, st, a, b, c, d, rfl, eS, hob, h1, h2, h3, h4, h5, h6, h7, h8, k⟩ := h
  obtain ⟨dx, t, g, s, hq, hot, hs, hsl, hmw⟩ := hob
  have fl : ∀ H', Ex S H' → Val (tFld K (tVar 0) "tall") [some (.ref q), some (.int a), some (.int b), some (.int c), some (.int d)] H' (.int (m : Nat)) := fun H' e => val_fld (val_var rfl) (e _ _ hq) T.cl_Asks T.na_Asks_tall (as_tall _ _ _ _ _)
  have fw : ∀ H', Ex S H' → Val (tFld K (tVar 0) "wide") [some (.ref q), some (.int a), some (.int b), some (.int c), some (.int d)] H' (.int (w : Nat)) := fun H' e => val_fld (val_var rfl) (e _ _ hq) T.cl_Asks T.na_Asks_wide (as_wide _ _ _ _ _)
  have ft : ∀ H', Ex S H' → Val (tFld K (tVar 0) "tally") [some (.ref q), some (.int a), some (.int b), some (.int c), some (.int d)] H' (.ref t) := fun H' e => val_fld (val_var rfl) (e _ _ hq) T.cl_Asks T.na_Asks_tally (as_tally _ _ _ _ _)
  refine x_dropC (c_callM (cons_V (fl H eS) (cons_V (fw H eS) (cons_C (c_tup (va_cons (val_var rfl) (va_3 (val_var rfl) (val_var rfl) (val_var rfl))) (by simp) fun p hp => ⟨p, (m : Nat), (w : Nat), a, b, c, d, rfl, upd_same, h1, h2, h3, h4, h5, h6, h7, h8, ?_⟩)))))
  have e1 := Ex.new (o := .tup [.int a, .int b, .int c, .int d]) hp
  generalize upd H p (.tup [.int a, .int b, .int c, .int d]) = H1 at e1 ⊢
  have eS1 := eS.trans e1
  have hot2 := hot
  obtain ⟨dt, vt, fs, hqt, _, _⟩ := hot2
  refine x_retC ((val_I0 (val_var rfl) (val_var rfl)) _ ?_)
  refine c_meth (ft H1 eS1) (eS1 _ _ hqt) (ty_below _ _) (va_2 (val_I0 (val_I0 (fl H1 eS1) (val_var rfl)) (val_var rfl)) (val_I0 (val_I0 (fl H1 eS1) (val_var rfl)) (val_var rfl))) ⟨S, t, ((m + w : Nat) : Int), _, _, rfl, eS1, hot, by omega, by omega, by omega, by omega, fun r hr h0 => ⟨_, r, rfl, rfl, k r H1 e1 hr fun z => h0 (by omega)⟩⟩
theorem ok_Asks_window (T : Txt w K mg) : Df P w K mg base 5 (He.ma K (He.ga K "Asks") "window") ["self", "first", "last", "begin", "end"] (sp_Asks_window K) :=
  df_of T.f_Asks_window sc_Asks_window (fun _ _ _ _ _ _ us hl => match us, hl with | [_, _, _, _, _], _ => rfl) (fun vs H Q E h => by
    obtain ⟨S, q, m, w, st, a, b, c, d, rfl, _⟩ := h
    rfl) (fun cdv A outer s H E hr => w_Asks_window T cdv A outer s H E hr) (fun vs H Q E h => r_Asks_window T vs H Q E h)
end
end Pk
namespace Pk
open PySem PySem.Spec
open PyProof.Rows L2
/-! ## Asks.stretch -/
theorem sc_Asks_stretch : FnScope ["self", "begin", "end"] ["self", "begin", "end"] (defScope s_Asks_stretch) := ⟨rfl, rfl, rfl, by decide +kernel, rfl, by decide +kernel, by decide +kernel⟩
def sp_Asks_stretch (K : PySem.W.Frag) : Sp := fun vs H Q _ => ∃ (S : Hp) (q : Addr) (m w : Nat) (st : List Nat) (c d : Int), vs = [.ref q, .int c, .int d] ∧ Ex S H ∧ ObA K S q m w st ∧ 0 ≤ c ∧ c ≤ d ∧ d ≤ (w : Nat) ∧ ∀ (r : Int) (H' : Hp), Ex H H' → 0 ≤ r → (d = 0 → r = 0) → Q (.int (d - c - r)) H'
def t_Asks_stretch (K : PySem.W.Frag) : TS := (tSeq (tDrop (tCall (sp_need_span K) [] E0 (tCons (tVar 1) (tCons (tVar 2) (tCons (tFld K (tVar 0) "wide") tNil)))))
  (tRet (tMeth (He.ga K "Asks") "window" (sp_Asks_window K) [] E0 (tVar 0) (tCons (tC (.int 0)) (tCons (tFld K (tVar 0) "tall") (tCons (tVar 1) (tCons (tVar 2) tNil)))))))
section
variable {P : Program} {w : World} {K : PySem.W.Frag} {mg : Str → Option Value} {base : Heap}
theorem w_Asks_stretch (T : Txt w K mg) (cdv : Value) (A : Around) (outer : List Env) (s : Shared) (H : Hp) (E : XK) (hr : Room 5 (A.deeper (envOfC "Asks.stretch" (defScope s_Asks_stretch) s.heap.objs.size (He.ma K (He.ga K "Asks") "stretch") cdv))) :
    PSs (cxOf CX0 P w K mg base ["self", "begin", "end"] "Asks.stretch" (defScope s_Asks_stretch) (He.ma K (He.ga K "Asks") "stretch") cdv A outer s H E).nox (defBody s_Asks_stretch) (t_Asks_stretch K) := by
  obtain ⟨⟨fd_need_span, F_need_span, b_need_span⟩, k_need_span⟩ := ok_need_span (P := P) (base := base) T
  obtain ⟨⟨fd_Asks_window, F_Asks_window, b_Asks_window⟩, k_Asks_window⟩ := ok_Asks_window (P := P) (base := base) T
  exact (pss_cons (ps_expr (pe_call F_need_span (hr.mono (by decide)) (by exact rfl) T.g_need_span k_need_span b_need_span .nil pass0 (pa_cons (pv 1) (pa_cons (pv 2) (pa_cons (pe_fld (pv 0) rfl) pa_nil)))))
  (pss_one (ps_ret (pe_meth (pv 0) T.cl_Asks T.me_Asks_window F_Asks_window (hr.mono (by decide)) b_Asks_window .nil pass0 (pa_cons pe_int (pa_cons (pe_fld (pv 0) rfl) (pa_cons (pv 1) (pa_cons (pv 2) pa_nil))))))))
theorem r_Asks_stretch (T : Txt w K mg) (vs : List V) (H : Hp) (Q : VK) (E : XK) (h : sp_Asks_stretch K vs H Q E) : t_Asks_stretch K { nx := fun _ H' => Q .non H', rt := Q } (start ["self", "begin", "end"] vs) H := by
  obtain ⟨S, q, m, w, st, c, d, rfl, eS, hob, h4, h5, h6, k⟩ := h
  have hob2 := hob
  obtain ⟨dx, t, g, s, hq, hot, hs, hsl, hmw⟩ := hob2
  refine x_dropC (c_call (va_3 (val_var rfl) (val_var rfl) (val_fld (val_var rfl) (eS _ _ hq) T.cl_Asks T.na_Asks_wide (as_wide _ _ _ _ _))) ⟨c, d, (w : Nat), rfl, h4, h5, h6, ?_⟩)
  exact x_retC (c_meth (val_var rfl) (eS _ _ hq) (as_window _ _ _ _ _) (va_cons val_c (va_3 (val_fld (val_var rfl) (eS _ _ hq) T.cl_Asks T.na_Asks_tall (as_tall _ _ _ _ _)) (val_var rfl) (val_var rfl))) ⟨S, q, m, w, st, 0, (m : Nat), c, d, rfl, eS, hob, by omega, by omega, by omega, h4, h5, h6, .inl rfl, .inl rfl, fun r H' e hr h0 => k r H' e hr fun z => h0 (by omega)⟩)
theorem ok_Asks_stretch (T : Txt w K mg) : Df P w K mg base 6 (He.ma K (He.ga K "Asks") "stretch") ["self", "begin", "end"] (sp_Asks_stretch K) :=
  df_of T.f_Asks_stretch sc_Asks_stretch (fun _ _ _ _ _ _ us hl => match us, hl with | [_, _, _], _ => rfl) (fun vs H Q E h => by
    obtain ⟨S, q, m, w, st, c, d, rfl, _⟩ := h
    rfl) (fun cdv A outer s H E hr => w_Asks_stretch T cdv A outer s H E hr) (fun vs H Q E h => r_Asks_stretch T vs H Q E h)
end
end Pk
namespace Pk
open PySem PySem.Spec
open PyProof.Rows L2
/-! ## Asks.gains -/
theorem sc_Asks_gains : FnScope ["self", "begin", "at"] ["self", "begin"] (defScope s_Asks_gains) := ⟨rfl, rfl, rfl, by decide +kernel, rfl, by decide +kernel, by decide +kernel⟩
def sp_Asks_gains (K : PySem.W.Frag) : Sp := fun vs H Q _ => ∃ (S : Hp) (q : Addr) (m w : Nat) (st : List Nat) (b : Nat), vs = [.ref q, .int (b : Nat)] ∧ Ex S H ∧ ObA K S q m w st ∧ b ≤ w ∧ ∀ S' H' v', Gw S H S' H' → At S' v' (eIL (natI (gns st m w b))) → Q v' H'
def t_Asks_gains (K : PySem.W.Frag) : TS := (tSeq (tDrop (tCall (sp_need_place K) [] E0 (tCons (tVar 1) (tCons (tFld K (tVar 0) "wide") tNil))))
  (tRet (tLc (iRng2 (tCons (tVar 1) (tCons (tFld K (tVar 0) "wide") tNil))) (gName 2) (tTest (tOp oLt (tOp (rIxL K) (tFld K (tVar 0) "starts") (tVar 2)) (tOp oAdd (tFld K (tVar 0) "tall") (tVar 1)))) (tVar 2) [2])))
section
variable {P : Program} {w : World} {K : PySem.W.Frag} {mg : Str → Option Value} {base : Heap}
theorem w_Asks_gains (T : Txt w K mg) (cdv : Value) (A : Around) (outer : List Env) (s : Shared) (H : Hp) (E : XK) (hr : Room 3 (A.deeper (envOfC "Asks.gains" (defScope s_Asks_gains) s.heap.objs.size (He.ma K (He.ga K "Asks") "gains") cdv))) :
    PSs (cxOf CX0 P w K mg base ["self", "begin", "at"] "Asks.gains" (defScope s_Asks_gains) (He.ma K (He.ga K "Asks") "gains") cdv A outer s H E).nox (defBody s_Asks_gains) (t_Asks_gains K) := by
  obtain ⟨⟨fd_need_place, F_need_place, b_need_place⟩, k_need_place⟩ := ok_need_place (P := P) (base := base) T
  exact (pss_cons (ps_expr (pe_call F_need_place (hr.mono (by decide)) (by exact rfl) T.g_need_place k_need_place b_need_place .nil pass0 (pa_cons (pv 1) (pa_cons (pe_fld (pv 0) rfl) pa_nil))))
  (pss_one (ps_ret (pe_lc (own := [("at", 2)]) (g := (gName 2)) (tt := (tTest (tOp oLt (tOp (rIxL K) (tFld K (tVar 0) "starts") (tVar 2)) (tOp oAdd (tFld K (tVar 0) "tall") (tVar 1))))) rfl sc_Asks_gains.nd (pi_range2 (by exact rfl) T.n_range (pa_cons (pv 1) (pa_cons (pe_fld (pv 0) rfl) pa_nil))) (blkOk_by (N := ["self", "begin", "at"]) (sc := defScope s_Asks_gains) (by decide +kernel)) (fun _ _ _ _ _ => (pg_name (i := 2) sc_Asks_gains.nd rfl (Or.inl rfl))) (fun _ _ _ _ _ => (pts_one (pt_cmpR op_lt (pe_ix ix_list (pe_fld (pv 0) rfl) (pv 2) (fun _ _ => rfl)) (pe_op op_add (pe_fld (pv 0) rfl) (pv 1)) (nomark _)))) (fun _ _ _ _ _ => (pv 2))))))
theorem r_Asks_gains (T : Txt w K mg) (vs : List V) (H : Hp) (Q : VK) (E : XK) (h : sp_Asks_gains K vs H Q E) : t_Asks_gains K { nx := fun _ H' => Q .non H', rt := Q } (start ["self", "begin", "at"] vs) H := by
  obtain ⟨S, q, m, w, st, b, rfl, eS, hob, hb, k⟩ := h
  obtain ⟨dx, t, g, s, hq, hot, hs, hsl, hmw⟩ := hob
  obtain ⟨ps, rfl, hps⟩ := hs.nat_
  have fw : ∀ (σ : L2.St) H', σ[0]? = some (some (.ref q)) → Ex S H' → Val (tFld K (tVar 0) "wide") σ H' (.int (w : Nat)) := fun σ H' h e => val_fld (val_var h) (e _ _ hq) T.cl_Asks T.na_Asks_wide (as_wide _ _ _ _ _)
  have fl : ∀ (σ : L2.St) H', σ[0]? = some (some (.ref q)) → Ex S H' → Val (tFld K (tVar 0) "tall") σ H' (.int (m : Nat)) := fun σ H' h e => val_fld (val_var h) (e _ _ hq) T.cl_Asks T.na_Asks_tall (as_tall _ _ _ _ _)
  have fs : ∀ (σ : L2.St) H', σ[0]? = some (some (.ref q)) → Ex S H' → Val (tFld K (tVar 0) "starts") σ H' (.ref ps) := fun σ H' h e => val_fld (val_var h) (e _ _ hq) T.cl_Asks T.na_Asks_starts (as_starts _ _ _ _ _)
  refine x_dropC (c_call (va_2 (val_var rfl) (fw _ H rfl eS)) ⟨(b : Nat), (w : Nat), rfl, by omega, by omega, ?_⟩)
  refine x_retC (c_tlc (S := S) (J := Itr (b : Int) ((w : Int) - (b : Int)).toNat) (H0 := H) (fun R r => (va_2 (val_var rfl) (fw _ H rfl eS)) _ ⟨_, _, rfl, ⟨by omega, by omega, by omega, by omega⟩, r⟩) (walk_range (lo := (b : Int)) (n := ((w : Int) - (b : Int)).toNat)) (fun n S acc => acc = natV ((List.range' b n).filter fun at_ => decide (st.getD at_ 0 < m + b))) eS (fun _ _ => trivial) rfl (fun n S' H' acc x H'' R L hk g1 hF hy kR kL => ?_) (fun D S' H' acc hF g1 sD hD eD => ?_))
  · obtain ⟨rfl, rfl⟩ := hy
    have hz : (b : Int) + (n : Nat) = ((b + n : Nat) : Int) := by omega
    show gName 2 (.int ((b : Int) + (n : Nat))) _ _ _
    rw [hz]
    have hg : st[b + n]? = some (st.getD (b + n) 0) := by rw [List.getD_eq_getElem?_getD, List.getElem?_eq_getElem (by omega)]; rfl
    have hl : acc.length < 100000 := by
      rw [hF, natV_len]
      have := List.length_filter_le (fun at_ => decide (st.getD at_ 0 < m + b)) (List.range' b n)
      rw [List.length_range'] at this
      omega
    have et : natV ((List.range' b (n + 1)).filter fun at_ => decide (st.getD at_ 0 < m + b)) = acc ++ natV (if st.getD (b + n) 0 < m + b then [b + n] else []) := by
      rw [← List.range'_append (s := b) (m := n) (n := 1) (step := 1), List.filter_append, hF]
      unfold natV
      rw [List.map_append]
      congr 2
      show List.filter _ [b + 1 * n] = _
      rw [Nat.one_mul]
      by_cases h : st.getD (b + n) 0 < m + b
      · rw [if_pos h, List.filter_cons_of_pos (by simpa using h)]; rfl
      · rw [if_neg h, List.filter_cons_of_neg (by simpa using h)]; rfl
    refine ⟨rfl, c_test (b := decide (st.getD (b + n) 0 < m + b)) (Ans.to (ans_te (val_I0 (val_ixL (val_fld (val_var rfl) (g1.i _ _ (g1.s _ _ hq)) T.cl_Asks T.na_Asks_starts (as_starts _ _ _ _ _)) (val_var rfl) (g1.i _ _ (g1.s _ _ hps)) (at_nat rfl (natV_get hg))) (val_I0 (fl _ _ rfl (g1.s.trans g1.i)) (val_var rfl)))) (decide_eq_decide.mpr (by omega))) (fun hb => (val_var rfl) R (kR _ S' _ (Gw.refl g1.i) ?_ hl)) (fun hb => kL S' _ (Gw.refl g1.i) ?_)⟩
    · rw [et, if_pos (of_decide_eq_true hb)]; rfl
    · rw [et, if_neg (of_decide_eq_false hb)]; exact (List.append_nil _).symm
  · refine k _ _ _ (g1.frz hD sD eD) (At.nat ?_)
    rw [upd_same, hF]
    unfold gns
    rw [show ((w : Int) - (b : Int)).toNat = w - b by omega]
theorem ok_Asks_gains (T : Txt w K mg) : Df P w K mg base 4 (He.ma K (He.ga K "Asks") "gains") ["self", "begin"] (sp_Asks_gains K) :=
  df_of T.f_Asks_gains sc_Asks_gains (fun _ _ _ _ _ _ us hl => match us, hl with | [_, _], _ => rfl) (fun vs H Q E h => by
    obtain ⟨S, q, m, w, st, b, rfl, _⟩ := h
    rfl) (fun cdv A outer s H E hr => w_Asks_gains T cdv A outer s H E hr) (fun vs H Q E h => r_Asks_gains T vs H Q E h)
end
end Pk
namespace Pk
open PySem PySem.Spec
open PyProof.Rows L2
/-! ## Asks.table -/
theorem sc_Asks_table : FnScope ["self", "found", "begin", "row", "more", "at"] ["self"] (defScope s_Asks_table) := ⟨rfl, rfl, rfl, by decide +kernel, rfl, by decide +kernel, by decide +kernel⟩
def sp_Asks_table (K : PySem.W.Frag) : Sp := fun vs H Q _ => ∃ (S : Hp) (q : Addr) (m w : Nat) (st : List Nat), vs = [.ref q] ∧ Ex S H ∧ ObA K S q m w st ∧ ∀ S' H' v' (rows : List (List Int)), Gw S H S' H' → At S' v' (eILL rows) → rows.length = w + 1 → (∀ i row, rows[i]? = some row → row.length = w - i + 1) → (∀ row, rows[0]? = some row → ∀ j, j ≤ w → row[j]? = some (((st.take j).countP (fun x => decide (x < m)) : Nat) : Int)) → Q v' H'
def t_Asks_table (K : PySem.W.Frag) : TS := (tSeq (tAsg (tLst tNil) (gName 1))
  (tSeq (tFor (iRng1 (tCons (tOp oAdd (tFld K (tVar 0) "wide") (tC (.int 1))) tNil)) (gName 2) (tSeq (tAsg (tLst (tCons (tMeth (He.ga K "Asks") "stretch" (sp_Asks_stretch K) [] E0 (tVar 0) (tCons (tVar 2) (tCons (tVar 2) tNil))) tNil)) (gName 3))
  (tSeq (tAsg (tMeth (He.ga K "Asks") "gains" (sp_Asks_gains K) [] E0 (tVar 0) (tCons (tVar 2) tNil)) (gName 4))
  (tSeq (tFor (iRng2 (tCons (tVar 2) (tCons (tFld K (tVar 0) "wide") tNil))) (gName 5) (tDrop (tBM K "list" rAppend (tVar 3) (tCons (tOp oAdd (tOp (rIxL K) (tVar 3) (tUn oNeg (tC (.int 1)))) (tCB cInt1 (tCons (tOp (rIn K false) (tVar 5) (tVar 4)) tNil))) tNil))))
  (tDrop (tBM K "list" rAppend (tVar 1) (tCons (tVar 3) tNil)))))))
  (tRet (tVar 1))))
section
variable {P : Program} {w : World} {K : PySem.W.Frag} {mg : Str → Option Value} {base : Heap}
theorem w_Asks_table (T : Txt w K mg) (cdv : Value) (A : Around) (outer : List Env) (s : Shared) (H : Hp) (E : XK) (hr : Room 6 (A.deeper (envOfC "Asks.table" (defScope s_Asks_table) s.heap.objs.size (He.ma K (He.ga K "Asks") "table") cdv))) :
    PSs (cxOf CX0 P w K mg base ["self", "found", "begin", "row", "more", "at"] "Asks.table" (defScope s_Asks_table) (He.ma K (He.ga K "Asks") "table") cdv A outer s H E).nox (defBody s_Asks_table) (t_Asks_table K) := by
  obtain ⟨⟨fd_Asks_stretch, F_Asks_stretch, b_Asks_stretch⟩, k_Asks_stretch⟩ := ok_Asks_stretch (P := P) (base := base) T
  obtain ⟨⟨fd_Asks_gains, F_Asks_gains, b_Asks_gains⟩, k_Asks_gains⟩ := ok_Asks_gains (P := P) (base := base) T
  exact (pss_cons (ps_set (i := 1) sc_Asks_table.nd rfl (Or.inl rfl) (pe_lst pa_nil))
  (pss_cons (ps_for PassesOwn.never rfl (pi_range1 (by exact rfl) T.n_range (pa_cons (pe_op op_add (pe_fld (pv 0) rfl) pe_int) pa_nil)) (pg_name (i := 2) sc_Asks_table.nd rfl (Or.inl rfl)) (pss_cons (ps_set (i := 3) sc_Asks_table.nd rfl (Or.inl rfl) (pe_lst (pa_cons (pe_meth (pv 0) T.cl_Asks T.me_Asks_stretch F_Asks_stretch (hr.mono (by decide)) b_Asks_stretch .nil pass0 (pa_cons (pv 2) (pa_cons (pv 2) pa_nil))) pa_nil)))
  (pss_cons (ps_set (i := 4) sc_Asks_table.nd rfl (Or.inl rfl) (pe_meth (pv 0) T.cl_Asks T.me_Asks_gains F_Asks_gains (hr.mono (by decide)) b_Asks_gains .nil pass0 (pa_cons (pv 2) pa_nil)))
  (pss_cons (ps_for PassesOwn.never rfl (pi_range2 (by exact rfl) T.n_range (pa_cons (pv 2) (pa_cons (pe_fld (pv 0) rfl) pa_nil))) (pg_name (i := 5) sc_Asks_table.nd rfl (Or.inl rfl)) (pss_one (ps_expr (pe_bm PySem.F.plainAttrs_list PySem.F.slot_list_append PySem.F.type_list_append mt_append (pv 3) (pa_cons (pe_op op_add (pe_ix ix_list (pv 3) (pe_un un_neg pe_int) (fun _ _ => rfl)) (pe_callTy cl_int1 (by exact rfl) T.n_int (by decide +kernel) (pa_cons (pe_cmpR op_in_seq (pv 5) (pv 4) (by rfl)) pa_nil))) pa_nil)))))
  (pss_one (ps_expr (pe_bm PySem.F.plainAttrs_list PySem.F.slot_list_append PySem.F.type_list_append mt_append (pv 1) (pa_cons (pv 3) pa_nil))))))))
  (pss_one (ps_ret (pv 1)))))
theorem r_Asks_table (T : Txt w K mg) (vs : List V) (H : Hp) (Q : VK) (E : XK) (h : sp_Asks_table K vs H Q E) : t_Asks_table K { nx := fun _ H' => Q .non H', rt := Q } (start ["self", "found", "begin", "row", "more", "at"] vs) H := by
  obtain ⟨S, q, m, w, st, rfl, eS, hob, k⟩ := h
  have hob2 := hob
  obtain ⟨dx, t, g, s, hq, hot, hs, hsl, hmw⟩ := hob2
  have fw : ∀ (σ : L2.St) H', σ[0]? = some (some (.ref q)) → Ex S H' → Val (tFld K (tVar 0) "wide") σ H' (.int (w : Nat)) := fun σ H' h e => val_fld (val_var h) (e _ _ hq) T.cl_Asks T.na_Asks_wide (as_wide _ _ _ _ _)
  refine x_setC (c_lst va_nil (by simp) fun l hl => ?_)
  have gl := (Gw.refl eS).mut (o := .lst []) hl
  refine x_forR (n := w + 1) (val_is (val_I0 (fw _ _ rfl gl.i) val_c) (by congr 1)) (by omega) (fun n σ' H' => ∃ (S' : Hp) (ws : List V) (rows : List (List Int)) (z2 z3 z4 z5 : Option V), σ' = [some (.ref q), some (.ref l), z2, z3, z4, z5] ∧ Gw S H S' H' ∧ S' l = none ∧ H' l = some (.lst ws) ∧ AtA S' ws (rows.map eIL) ∧ rows.length = n ∧ (∀ i row, rows[i]? = some row → row.length = w - i + 1) ∧ (∀ row, rows[0]? = some row → ∀ j, j ≤ w → row[j]? = some (((st.take j).countP (fun x => decide (x < m)) : Nat) : Int))) ⟨S, [], [], none, none, none, none, rfl, gl, eS.free hl, upd_same, .nil, rfl, (fun i row h => by simp at h), (fun row h => by simp at h)⟩ ?_ ?_
  · rintro n σ' H' hn ⟨S1, ws, rows, z2, z3, z4, z5, rfl, g1, sl, hw, hA, hrl, hr1, hr0⟩
    have hnl := hA.lenM
    have ob1 := hob.mono g1.s
    refine x_setC (c_lst1 (c_meth (val_var rfl) (g1.i _ _ (g1.s _ _ hq)) (as_stretch _ _ _ _ _) (va_2 (val_var rfl) (val_var rfl)) ⟨S1, q, m, w, st, (n : Nat), (n : Nat), rfl, g1.i, ob1, by omega, by omega, by omega, fun r H2 e2 hr h0 => ⟨one_sz, fun p hp => ?_⟩⟩))
    have g2 := (g1.any e2).mut (o := .lst [.int ((n : Nat) - (n : Nat) - r)]) hp
    have sp := (g1.any e2).freeS hp
    have hp0 := (g1.any e2).free hp
    have hpl : p ≠ l := fun z => by rw [z, e2 _ _ hw] at hp; cases hp
    have hw2 := upd_get (o := .lst [.int ((n : Nat) - (n : Nat) - r)]) (e2 _ _ hw) hp
    have hp2 : upd H2 p (.lst [.int ((n : Nat) - (n : Nat) - r)]) p = some (.lst [.int ((n : Nat) - (n : Nat) - r)]) := upd_same
    generalize upd H2 p (.lst [.int ((n : Nat) - (n : Nat) - r)]) = H3 at g2 hw2 hp2
    refine x_setC (c_meth (val_var rfl) (g2.i _ _ (g1.s _ _ hq)) (as_gains _ _ _ _ _) (va_1 (val_var rfl)) ⟨S1, q, m, w, st, n, rfl, g2.i, ob1, by omega, fun S4 H4 v4 g4 a4 => ?_⟩)
    obtain ⟨pg, rfl, hpg⟩ := a4.nat_
    have g5 := g2.trans g4
    have sl4 := g4.out hw2 sl
    have sp4 := g4.out hp2 sp
    have hw4 := g4.h _ _ hw2
    have hp4 := g4.h _ _ hp2
    have e0 : (n : Nat) - (n : Nat) - r = -r := by omega
    rw [show ((n : Nat) : Int) - ((n : Nat) : Int) - r = -r by omega] at hp4
    let row : Nat → List Int := fun j => (List.range (j + 1)).map fun i => -r + (((gns st m w n).countP (fun x => decide (x < n + i)) : Nat) : Int)
    have hrow0 : row 0 = [-r] := by
      have e : (gns st m w n).countP (fun x => decide (x < n + 0)) = 0 := by
        refine List.countP_eq_zero.mpr fun x hx => ?_
        have := gns_mem.mp hx
        simp
        omega
      show [-r + (((gns st m w n).countP (fun x => decide (x < n + 0)) : Nat) : Int)] = _
      rw [e]
      simp
    have gnd : (gns st m w n).Nodup := by
      unfold gns
      exact List.Pairwise.filter _ List.nodup_range'
    have hrows : ∀ j, row (j + 1) = row j ++ [-r + (((gns st m w n).countP (fun x => decide (x < n + j)) : Nat) : Int) + if n + j ∈ gns st m w n then 1 else 0] := fun j => by
      show (List.range (j + 1 + 1)).map _ = _
      rw [List.range_succ, List.map_append]
      refine congrArg _ ?_
      show [-r + (((gns st m w n).countP (fun x => decide (x < n + (j + 1))) : Nat) : Int)] = _
      have e : (gns st m w n).countP (fun x => decide (x < n + (j + 1))) = (gns st m w n).countP (fun x => decide (x < n + j)) + if n + j ∈ gns st m w n then 1 else 0 := countP_step gnd (n + j)
      rw [e]
      split <;> (congr 1; omega)
    have hrl2 : ∀ j, (row j).length = j + 1 := fun j => by show ((List.range (j + 1)).map _).length = _; simp
    refine x_forR2 (a := n) (b := w) (val_var rfl) (fw _ _ rfl (g1.s.trans (g4.s.trans g5.i))) (by omega) (fun j σ' H' => ∃ (z5 : Option V), σ' = [some (.ref q), some (.ref l), some (.int (n : Nat)), some (.ref p), some (.ref pg), z5] ∧ Gw S H S4 H' ∧ H' l = some (.lst ws) ∧ H' p = some (.lst ((row j).map V.int))) ⟨z5, rfl, g5, hw4, by rw [hrow0]; exact hp4⟩ ?_ ?_
    · rintro j σ' H' hj ⟨y5, rfl, g6, hw6, hp6⟩
      have hlast : (row j)[(row j).length - 1]? = some (-r + (((gns st m w n).countP (fun x => decide (x < n + j)) : Nat) : Int)) := by
        rw [hrl2]
        exact rm_get (by omega)
      have hin : Val (tOp (rIn K false) (tVar 5) (tVar 4)) [some (.ref q), some (.ref l), some (.int (n : Nat)), some (.ref p), some (.ref pg), some (.int ((n + j : Nat) : Int))] H' (.bl (decide (n + j ∈ gns st m w n))) := fun Q q0 => (val_var rfl) _ ((val_var rfl) _ ⟨pg, _, rfl, .inl (SqL.of (g6.i _ _ hpg)), rfl, natV_flat _, by rw [inV_nat]; exact q0⟩)
      refine y_app (val_var rfl) (val_I0 (val_ixL (val_var rfl) (val_neg val_c) hp6 (at_neg1 (by rw [List.length_map]; exact map_get hlast))) (val_intB hin)) hp6 (by rw [List.length_map, hrl2]; omega) ⟨_, rfl, g6.set hp0 sp4, by rw [upd_ne hpl.symm]; exact hw6, ?_⟩
      rw [upd_same, hrows, List.map_append]
      simp only [decide_eq_true_eq]
      rfl
    · rintro σ' H' ⟨y5, rfl, g6, hw6, hp6⟩
      have g7 := g6.frz hp0 sp4 hp6
      have sl7 : upd S4 p (.lst ((row (w - n)).map V.int)) l = none := by rw [upd_ne hpl.symm]; exact sl4
      refine y_app (val_var rfl) (val_var rfl) hw6 (by omega) ⟨_, ws ++ [.ref p], rows ++ [row (w - n)], _, _, _, _, rfl, g7.set hl sl7, sl7, upd_same, ?_, by rw [List.length_append, hrl]; rfl, ?_, ?_⟩
      · exact (hA.mono (g4.s.trans (Ex.new sp4))).snocM (.lst upd_same (ata_ints _))
      · intro i ro h
        by_cases hi : i < rows.length
        · rw [List.getElem?_append_left hi] at h
          exact hr1 i ro h
        · rw [List.getElem?_append_right (by omega)] at h
          have hi2 : i = rows.length := by
            have := (List.getElem?_eq_some_iff.mp h).1
            simp at this
            omega
          subst hi2
          rw [Nat.sub_self] at h
          injection h with h
          rw [← h, hrl2, hrl]
      · intro ro h j hj
        cases hn0 : n with
        | succ n' =>
          rw [List.getElem?_append_left (by omega)] at h
          exact hr0 ro h j hj
        | zero =>
          subst hn0
          rw [List.getElem?_append_right (by omega), hrl] at h
          injection h with h
          rw [← h]
          have hr : r = 0 := h0 rfl
          show ((List.range (w - 0 + 1)).map _)[j]? = _
          rw [rm_get (by omega), hr]
          refine congrArg some ?_
          rw [gns_count st m w j hj (by omega)]
          omega
  · rintro σ' H' ⟨S1, ws, rows, z2, z3, z4, z5, rfl, g1, sl, hw, hA, hrl, hr1, hr0⟩
    refine x_ret (val_var rfl) (k _ _ _ rows (g1.frz hl sl hw) (.lst upd_same (hA.mono (Ex.new sl))) hrl hr1 hr0)
theorem ok_Asks_table (T : Txt w K mg) : Df P w K mg base 7 (He.ma K (He.ga K "Asks") "table") ["self"] (sp_Asks_table K) :=
  df_of T.f_Asks_table sc_Asks_table (fun _ _ _ _ _ _ us hl => match us, hl with | [_], _ => rfl) (fun vs H Q E h => by
    obtain ⟨S, q, m, w, st, rfl, _⟩ := h
    rfl) (fun cdv A outer s H E hr => w_Asks_table T cdv A outer s H E hr) (fun vs H Q E h => r_Asks_table T vs H Q E h)
end
end Pk
namespace Pk
open PySem PySem.Spec
open PyProof.Rows L2
open LamX NdefX
/-! ## Costs.__init__ -/
theorem sc_Costs_init : FnScope ["self", "side", "top", "table", "begin", "lengths", "at", "many"] ["self", "side", "top"] (defScope s_Costs_init) := ⟨rfl, rfl, rfl, by decide +kernel, rfl, by decide +kernel, by decide +kernel⟩
def sp_Costs_init (K : PySem.W.Frag) : Sp := fun vs H Q _ => ∃ (q dx : Addr) (a b : List Nat), vs = [.ref q, .str (tx a), .str (tx b)] ∧ H q = some (.ins (He.ga K "Costs") dx []) ∧ TabS H (bT K).2 lam_q ∧ Plain a ∧ Plain b ∧ ∀ S' H', Ex S' H' → ObC K S' q b.length (ed a b a.length b.length : Nat) → Q .non H'
def t_Costs_init (K : PySem.W.Frag) : TS := (tSeq (tDrop (tCall (sp_need_plains K) [] E0 (tCons (tVar 1) (tCons (tVar 2) tNil))))
  (tSeq (sFld K (tVar 0) (tVar 1) "turned_row")
  (tSeq (sFld K (tVar 0) (tVar 2) "goal_row")
  (tSeq (sFld K (tVar 0) (tCB cLenS (tCons (tVar 2) tNil)) "wide")
  (tSeq (tAsg (tMeth (He.ga K "Asks") "table" (sp_Asks_table K) [] E0 (tCall (sp_asks_of K) [] E0 (tCons (tCall (sp_parted K) [] E0 (tCons (tVar 1) tNil)) (tCons (tCall (sp_parted K) [] E0 (tCons (tVar 2) tNil)) tNil))) tNil) (gName 3))
  (tSeq (sFld K (tVar 0) (tLst tNil) "costs")
  (tFor (iRng1 (tCons (tOp oAdd (tFld K (tVar 0) "wide") (tC (.int 1))) tNil)) (gName 4) (tSeq (tAsg (tSl2 K 0 (tOp (rIxL K) (tVar 3) (tOp oMul (tC (.int 2)) (tVar 4)))) (gName 5))
  (tDrop (tBM K "list" rAppend (tFld K (tVar 0) "costs") (tCons (tLc (iEnum K (tCons (tVar 5) tNil)) (gTup K 2 (gCons (gName 6) (gCons (gName 7) gNil))) tYes (tOp oSub (tOp oAdd (tCB cLenS (tCons (tVar 1) tNil)) (tVar 6)) (tVar 7)) [6, 7]) tNil)))))))))))
section
variable {P : Program} {w : World} {K : PySem.W.Frag} {mg : Str → Option Value} {base : Heap}
theorem w_Costs_init (T : Txt w K mg) (TB : TabB base mg (bT K).1 (bT K).2) (cdv : Value) (A : Around) (outer : List Env) (s : Shared) (H : Hp) (E : XK) (hr : Room 9 (A.deeper (envOfC "Costs.__init__" (defScope s_Costs_init) s.heap.objs.size (He.ma K (He.ga K "Costs") "__init__") cdv))) :
    PSs (cxOf CX0 P w K mg base ["self", "side", "top", "table", "begin", "lengths", "at", "many"] "Costs.__init__" (defScope s_Costs_init) (He.ma K (He.ga K "Costs") "__init__") cdv A outer s H E).nox (defBody s_Costs_init) (t_Costs_init K) := by
  obtain ⟨⟨fd_need_plains, F_need_plains, b_need_plains⟩, k_need_plains⟩ := ok_need_plains (P := P) (base := base) T
  obtain ⟨⟨fd_parted, F_parted, b_parted⟩, k_parted⟩ := ok_parted (P := P) (base := base) T
  obtain ⟨⟨fd_asks_of, F_asks_of, b_asks_of⟩, k_asks_of⟩ := ok_asks_of (P := P) (base := base) T TB
  obtain ⟨⟨fd_Asks_table, F_Asks_table, b_Asks_table⟩, k_Asks_table⟩ := ok_Asks_table (P := P) (base := base) T
  exact (pss_cons (ps_expr (pe_call F_need_plains (hr.mono (by decide)) (by exact rfl) T.g_need_plains k_need_plains b_need_plains .nil pass0 (pa_cons (pv 1) (pa_cons (pv 2) pa_nil))))
  (pss_cons (ps_fld (pv 0) (pv 1) rfl)
  (pss_cons (ps_fld (pv 0) (pv 2) rfl)
  (pss_cons (ps_fld (pv 0) (pe_callB cl_lenS (by exact rfl) T.n_len PySem.boot_len (pa_cons (pv 2) pa_nil)) rfl)
  (pss_cons (ps_set (i := 3) sc_Costs_init.nd rfl (Or.inl rfl) (pe_meth0 (pe_call F_asks_of (hr.mono (by decide)) (by exact rfl) T.g_asks_of k_asks_of b_asks_of .nil pass0 (pa_cons (pe_call F_parted (hr.mono (by decide)) (by exact rfl) T.g_parted k_parted b_parted .nil pass0 (pa_cons (pv 1) pa_nil)) (pa_cons (pe_call F_parted (hr.mono (by decide)) (by exact rfl) T.g_parted k_parted b_parted .nil pass0 (pa_cons (pv 2) pa_nil)) pa_nil))) T.cl_Asks T.me_Asks_table F_Asks_table (hr.mono (by decide)) b_Asks_table .nil pass0))
  (pss_cons (ps_fld (pv 0) (pe_lst pa_nil) rfl)
  (pss_one (ps_for PassesOwn.never rfl (pi_range1 (by exact rfl) T.n_range (pa_cons (pe_op op_add (pe_fld (pv 0) rfl) pe_int) pa_nil)) (pg_name (i := 4) sc_Costs_init.nd rfl (Or.inl rfl)) (pss_cons (ps_set (i := 5) sc_Costs_init.nd rfl (Or.inl rfl) (pe_sl20 (pe_ix ix_list (pv 3) (pe_op op_mul pe_int (pv 4)) (fun _ _ => rfl))))
  (pss_one (ps_expr (pe_bm PySem.F.plainAttrs_list PySem.F.slot_list_append PySem.F.type_list_append mt_append (pe_fld (pv 0) rfl) (pa_cons (pe_lc (own := [("at", 6), ("many", 7)]) (g := (gTup K 2 (gCons (gName 6) (gCons (gName 7) gNil)))) (tt := tYes) rfl sc_Costs_init.nd (pi_enum (by exact rfl) T.n_enumerate (pa_cons (pv 5) pa_nil)) (blkOk_by (N := ["self", "side", "top", "table", "begin", "lengths", "at", "many"]) (sc := defScope s_Costs_init) (by decide +kernel)) (fun _ _ _ _ _ => (pg_tup rfl (pgs_cons (pg_name (i := 6) sc_Costs_init.nd rfl (Or.inl rfl)) (pgs_cons (pg_name (i := 7) sc_Costs_init.nd rfl (Or.inl rfl)) pgs_nil)))) (fun _ _ _ _ _ => pts_nil) (fun _ _ _ _ _ => (pe_op op_sub (pe_op op_add (pe_callB cl_lenS (by exact rfl) T.n_len PySem.boot_len (pa_cons (pv 1) pa_nil)) (pv 6)) (pv 7)))) pa_nil)))))))))))))
theorem r_Costs_init (T : Txt w K mg) (vs : List V) (H : Hp) (Q : VK) (E : XK) (h : sp_Costs_init K vs H Q E) : t_Costs_init K { nx := fun _ H' => Q .non H', rt := Q } (start ["self", "side", "top", "table", "begin", "lengths", "at", "many"] vs) H := by
  obtain ⟨q, dx, a, b, rfl, hq, htb, hpa, hpb, k⟩ := h
  have za := hpa.1
  have zb := hpb.1
  have C := T.cl_Costs
  have la := part_length a
  have lb := part_length b
  refine x_dropC (c_call (va_2 (val_var rfl) (val_var rfl)) ⟨a, b, rfl, hpa, hpb, fun H1 e1 => ?_⟩)
  have t1 : TabS H1 (bT K).2 lam_q := htb.ext e1
  refine x_doC (st_fld (val_var rfl) (val_var rfl) (e1 _ _ hq) C T.na_Costs_turned_row (by decide) ?_)
  have t2 := tab_upd (o := .ins (He.ga K "Costs") dx (putF "turned_row" (.str (tx a)) [])) t1 (e1 _ _ hq)
  have q2 : upd H1 q (.ins (He.ga K "Costs") dx (putF "turned_row" (.str (tx a)) [])) q = some (.ins (He.ga K "Costs") dx (putF "turned_row" (.str (tx a)) [])) := upd_same
  generalize upd H1 q (.ins (He.ga K "Costs") dx (putF "turned_row" (.str (tx a)) [])) = H2 at t2 q2
  refine x_doC (st_fld (val_var rfl) (val_var rfl) q2 C T.na_Costs_goal_row (by show 1 < 1000; decide) ?_)
  have t3 := tab_upd (o := .ins (He.ga K "Costs") dx (putF "goal_row" (.str (tx b)) (putF "turned_row" (.str (tx a)) []))) t2 q2
  have q3 : upd H2 q (.ins (He.ga K "Costs") dx (putF "goal_row" (.str (tx b)) (putF "turned_row" (.str (tx a)) []))) q = some (.ins (He.ga K "Costs") dx (putF "goal_row" (.str (tx b)) (putF "turned_row" (.str (tx a)) []))) := upd_same
  generalize upd H2 q (.ins (He.ga K "Costs") dx (putF "goal_row" (.str (tx b)) (putF "turned_row" (.str (tx a)) []))) = H3 at t3 q3
  refine x_doC (st_fld (val_lenS (val_var rfl) (by omega)) (val_var rfl) q3 C T.na_Costs_wide (by show 2 < 1000; decide) ?_)
  have t4 := tab_upd (o := .ins (He.ga K "Costs") dx (putF "wide" (.int (b.length : Nat)) (putF "goal_row" (.str (tx b)) (putF "turned_row" (.str (tx a)) [])))) t3 q3
  have q4 : upd H3 q (.ins (He.ga K "Costs") dx (putF "wide" (.int (b.length : Nat)) (putF "goal_row" (.str (tx b)) (putF "turned_row" (.str (tx a)) [])))) q = some (.ins (He.ga K "Costs") dx (putF "wide" (.int (b.length : Nat)) (putF "goal_row" (.str (tx b)) (putF "turned_row" (.str (tx a)) [])))) := upd_same
  generalize upd H3 q (.ins (He.ga K "Costs") dx (putF "wide" (.int (b.length : Nat)) (putF "goal_row" (.str (tx b)) (putF "turned_row" (.str (tx a)) [])))) = H4 at t4 q4
  refine x_setC (c_meth0C (c_callM (cons_C (c_call (va_1 (val_var rfl)) ⟨a, rfl, hpa, fun H5 e5 => cons_C (c_call (va_1 (val_var rfl)) ⟨b, rfl, hpb, fun H6 e6 => ⟨part a, part b, rfl, t4.ext (e5.trans e6), part_row hpa, part_row hpb, fun S7 H7 w g7 o7 => ?_⟩⟩)⟩))))
  have q6 := (e5.trans e6) _ _ q4
  have o6 := offT_ne q6 (fun ps z => by cases z)
  have q7 := g7.h _ _ o6
  have s7 := g7.n q (by rw [o6]; simp) rfl
  have o7' := o7
  obtain ⟨dw, tw, gw, sw, hw, _⟩ := o7'
  refine ⟨w, dw, _, rfl, g7.i _ _ hw, as_table _ _ _ _ _, S7, w, _, _, _, rfl, g7.i, o7, fun S8 H8 v8 rows g8 a8 hrl hr1 hr0 => ?_⟩
  rw [lb] at hrl hr1 hr0
  have q8 := g8.h _ _ q7
  have s8 := g8.out q7 s7
  obtain ⟨pt, vs, rfl, hpt, hA⟩ := a8.lst_
  refine x_doC ⟨by show 0 ≤ sizeLine; decide, fun l hl => ?_⟩
  have hlq : l ≠ q := fun z => by rw [z, q8] at hl; cases hl
  have sl := g8.i.free hl
  have q9 := upd_get (o := .lst []) q8 hl
  refine (val_var rfl) _ ⟨q, _, dx, _, rfl, q9, C, T.na_Costs_costs, by show 3 < 1000; decide, ?_⟩
  have gA : Gw (fun _ => none) (fun _ => none) S8 H8 := ⟨(fun _ _ z => by cases z), (fun _ _ z => by cases z), g8.i, fun _ z _ => absurd rfl z⟩
  have gB := (gA.mut (o := .lst []) hl).set (o := .ins (He.ga K "Costs") dx (putF "costs" (.ref l) (putF "wide" (.int (b.length : Nat)) (putF "goal_row" (.str (tx b)) (putF "turned_row" (.str (tx a)) []))))) rfl s8
  have qB : upd (upd H8 l (.lst [])) q (.ins (He.ga K "Costs") dx (putF "costs" (.ref l) (putF "wide" (.int (b.length : Nat)) (putF "goal_row" (.str (tx b)) (putF "turned_row" (.str (tx a)) []))))) q = some (.ins (He.ga K "Costs") dx (putF "costs" (.ref l) (putF "wide" (.int (b.length : Nat)) (putF "goal_row" (.str (tx b)) (putF "turned_row" (.str (tx a)) []))))) := upd_same
  have lB : upd (upd H8 l (.lst [])) q (.ins (He.ga K "Costs") dx (putF "costs" (.ref l) (putF "wide" (.int (b.length : Nat)) (putF "goal_row" (.str (tx b)) (putF "turned_row" (.str (tx a)) []))))) l = some (.lst []) := by rw [upd_ne hlq, upd_same]
  generalize upd (upd H8 l (.lst [])) q (.ins (He.ga K "Costs") dx (putF "costs" (.ref l) (putF "wide" (.int (b.length : Nat)) (putF "goal_row" (.str (tx b)) (putF "turned_row" (.str (tx a)) []))))) = HB at gB qB lB ⊢
  have qB : HB q = some (.ins (He.ga K "Costs") dx (coF (.str (tx a)) (.str (tx b)) (.int (b.length : Nat)) (.ref l))) := qB
  refine y_forR (n := b.length + 1) (val_is (val_I0 (val_fld (val_var rfl) qB C T.na_Costs_wide (co_wide _ _ _ _)) val_c) (by congr 1)) (by omega) (fun n σ' H' => ∃ (S' : Hp) (ws : List V) (crs : List (List Int)) (z4 z5 z6 z7 : Option V), σ' = [some (.ref q), some (.str (tx a)), some (.str (tx b)), some (.ref pt), z4, z5, z6, z7] ∧ Gw (fun _ => none) (fun _ => none) S' H' ∧ Ex S8 S' ∧ S' l = none ∧ S' q = none ∧ H' q = some (.ins (He.ga K "Costs") dx (coF (.str (tx a)) (.str (tx b)) (.int (b.length : Nat)) (.ref l))) ∧ H' l = some (.lst ws) ∧ AtA S' ws (crs.map eIL) ∧ crs.length = n ∧ (∀ row, crs[0]? = some row → row[b.length]? = some ((ed a b a.length b.length : Nat) : Int))) ⟨S8, [], [], _, _, _, _, rfl, gB, Ex.refl _, sl, s8, qB, lB, .nil, rfl, fun row h => by simp at h⟩ ?_ ?_
  · rintro n σ' H' hn ⟨S1, ws, crs, z4, z5, z6, z7, rfl, g, e8, sl, sq, hq, hl, hW, hcl, hc0⟩
    obtain ⟨row, hrow⟩ : ∃ row, rows[2 * n]? = some row := ⟨_, List.getElem?_eq_getElem (by omega)⟩
    obtain ⟨vr, hvr, atr⟩ := hA.getF hrow
    obtain ⟨pr, rfl, hpr⟩ := atr.il_
    have hrowl := hr1 _ _ hrow
    have ix : Val (tOp (rIxL K) (tVar 3) (tOp oMul (tC (.int 2)) (tVar 4))) [some (.ref q), some (.str (tx a)), some (.str (tx b)), some (.ref pt), some (.int (n : Nat)), z5, z6, z7] H' (.ref pr) := val_ixL (val_var rfl) (val_I val_c (val_var rfl) (.inl ⟨by decide, by decide⟩)) (g.i _ _ (e8 _ _ hpt)) (at_nat (j := 2 * n) (by omega) hvr)
    refine x_setC (ix _ ⟨pr, _, rfl, SqL.of (g.i _ _ (e8 _ _ hpr)), fun p1 hp1 => ?_⟩)
    have g1 := g.put (o := .lst (evN 0 (row.map V.int))) hp1
    have hl1 := upd_get (o := .lst (evN 0 (row.map V.int))) hl hp1
    have hq1 := upd_get (o := .lst (evN 0 (row.map V.int))) hq hp1
    have nl1 : p1 ≠ l := fun z => by rw [z, hl] at hp1; cases hp1
    have nq1 : p1 ≠ q := fun z => by rw [z, hq] at hp1; cases hp1
    have sl1 : upd S1 p1 (.lst (evN 0 (row.map V.int))) l = none := by rw [upd_ne nl1.symm]; exact sl
    have sq1 : upd S1 p1 (.lst (evN 0 (row.map V.int))) q = none := by rw [upd_ne nq1.symm]; exact sq
    have k1 : upd S1 p1 (.lst (evN 0 (row.map V.int))) p1 = some (.lst (evN 0 (row.map V.int))) := upd_same
    have e1 : Ex S1 (upd S1 p1 (.lst (evN 0 (row.map V.int)))) := Ex.new (g.freeS hp1)
    generalize upd S1 p1 (.lst (evN 0 (row.map V.int))) = S2 at g1 sl1 sq1 k1 e1
    generalize upd H' p1 (.lst (evN 0 (row.map V.int))) = H2 at g1 hl1 hq1
    refine y_dropC ((val_fld (val_var rfl) hq1 C T.na_Costs_costs (co_costs _ _ _ _)) _ ⟨.inl ⟨rfl, _, SqL.of hl1⟩, ?_⟩)
    have evl : (evN 0 (row.map V.int)).length = (row.length + 1) / 2 := by rw [evN_length 0 _ (by omega), List.length_map]; omega
    have evg : ∀ j, (evN 0 (row.map V.int))[j]? = (row[2 * j]?).map V.int := fun j => by rw [evN_get 0 _ (by omega), List.getElem?_map, Nat.zero_add]
    refine cons_C (c_tlc (S := S2) (fun R r => ⟨_, rfl, p1, evN 0 (row.map V.int), rfl, SqL.of (g1.i _ _ k1), r⟩) (walk_enum (K := K) (a := p1) (xs := evN 0 (row.map V.int))) (fun m S acc => acc = ((List.range m).map fun j => (a.length : Int) + (j : Nat) - row.getD (2 * j) 0).map V.int) g1.i (fun H' e => SqL.of (e _ _ k1)) rfl (fun m S3 H3 acc x H'' R L hk g3 hF hy kR kL => ?_) (fun D S3 H3 acc hF g3 sD hD eD => ?_))
    · obtain ⟨T0, u, y2, rfl, hT, rfl, y1, y3⟩ := hy
      cases y1
      have y3 : (evN 0 (row.map V.int))[m]? = some y2 := y3
      rw [evg] at y3
      obtain ⟨z, hz, rfl⟩ := Option.map_eq_some_iff.mp y3
      have hzd : row.getD (2 * m) 0 = z := by rw [List.getD_eq_getElem?_getD, hz]; rfl
      refine ⟨T0, _, rfl, SqT.of upd_same, rfl, _, _, rfl, _, _, rfl, rfl, rfl, c_yes (te := tOp oSub _ _) ((val_I0 (val_I0 (val_lenS (val_var rfl) (by omega)) (val_var rfl)) (val_var rfl)) R (kR _ S3 _ ((Gw.refl g3.i).mut hT) ?_ ?_))⟩
      · rw [hF, List.range_succ, List.map_append, List.map_append, ← hzd]
        rfl
      · rw [hF, List.length_map, List.length_map, List.length_range]; omega
    · have g4 := g1.trans g3
      have hl3 := g3.h _ _ hl1
      have hq3 := g3.h _ _ hq1
      have sl3 := g3.out hl1 sl1
      have sq3 := g3.out hq1 sq1
      have nlD : l ≠ D := fun z => by rw [← z, hl1] at hD; cases hD
      have nqD : q ≠ D := fun z => by rw [← z, hq1] at hD; cases hD
      have g5 := g4.frz rfl sD eD
      have hwl := hW.lenM
      have sl5 : upd S3 D (.lst acc) l = none := by rw [upd_ne nlD]; exact sl3
      have sq5 : upd S3 D (.lst acc) q = none := by rw [upd_ne nqD]; exact sq3
      refine ⟨l, ws, _, rfl, rfl, hl3, small6 (by omega), _, ws ++ [.ref D], crs ++ [(List.range ((row.length + 1) / 2)).map fun j => (a.length : Int) + (j : Nat) - row.getD (2 * j) 0], _, _, _, _, rfl, g5.set rfl sl5, (e8.trans (e1.trans (g3.s.trans (Ex.new sD)))), sl5, sq5, by rw [upd_ne hlq.symm]; exact hq3, upd_same, ?_, by rw [List.length_append, hcl]; rfl, ?_⟩
      · refine (hW.mono (e1.trans (g3.s.trans (Ex.new sD)))).snocM (.lst upd_same ?_)
        rw [hF, evl]
        exact ata_ints _
      · intro ro h
        cases hn0 : n with
        | succ n' =>
          rw [List.getElem?_append_left (by omega)] at h
          exact hc0 ro h
        | zero =>
          subst hn0
          rw [List.getElem?_append_right (by omega), hcl] at h
          injection h with h
          rw [← h]
          have hz := hr0 row hrow (2 * b.length) (by omega)
          rw [← lb, fin_count _ _ _ (by rw [lb]; exact Nat.le_refl _), lb, la] at hz
          have e := lc_part hpa hpb a.length b.length (Nat.le_refl _) (Nat.le_refl _)
          have hl0 : row.length = 2 * b.length + 1 := by rw [hrowl]; omega
          rw [rm_get (by omega), List.getD_eq_getElem?_getD, hz]
          refine congrArg some ?_
          show (a.length : Int) + (b.length : Nat) - ((lc (part a) (part b) (2 * a.length) (2 * b.length) : Nat) : Int) = _
          omega
  · rintro σ' H' ⟨S1, ws, crs, z4, z5, z6, z7, rfl, g, e8, sl, sq, hq, hl, hW, hcl, hc0⟩
    have g2 := (g.frz rfl sl hl).frz (p := q) rfl (by rw [upd_ne hlq.symm]; exact sq) hq
    obtain ⟨row, hrow⟩ : ∃ row, crs[0]? = some row := ⟨_, List.getElem?_eq_getElem (by omega)⟩
    refine k _ _ g2.i ⟨dx, _, _, _, crs, upd_same, .lst (by rw [upd_ne hlq, upd_same]) (hW.mono ((Ex.new sl).trans (Ex.new (by rw [upd_ne hlq.symm]; exact sq)))), row, hrow, hc0 row hrow⟩
theorem ok_Costs_init (T : Txt w K mg) (TB : TabB base mg (bT K).1 (bT K).2) : Df P w K mg base 10 (He.ma K (He.ga K "Costs") "__init__") ["self", "side", "top"] (sp_Costs_init K) :=
  df_of T.f_Costs_init sc_Costs_init (fun _ _ _ _ _ _ us hl => match us, hl with | [_, _, _], _ => rfl) (fun vs H Q E h => by
    obtain ⟨q, dx, a, b, rfl, _⟩ := h
    rfl) (fun cdv A outer s H E hr => w_Costs_init T TB cdv A outer s H E hr) (fun vs H Q E h => r_Costs_init T vs H Q E h)
end
end Pk
namespace Pk
open PySem PySem.Spec
open PyProof.Rows L2
/-! ## Costs.of -/
theorem sc_Costs_of : FnScope ["self", "begin", "end"] ["self", "begin", "end"] (defScope s_Costs_of) := ⟨rfl, rfl, rfl, by decide +kernel, rfl, by decide +kernel, by decide +kernel⟩
def sp_Costs_of (K : PySem.W.Frag) : Sp := fun vs H Q _ => ∃ (S : Hp) (q : Addr) (n : Nat) (c : Int), vs = [.ref q, .int 0, .int (n : Nat)] ∧ Ex S H ∧ ObC K S q n c ∧ Q (.int c) H
def t_Costs_of (K : PySem.W.Frag) : TS := (tSeq (tDrop (tCall (sp_need_span K) [] E0 (tCons (tVar 1) (tCons (tVar 2) (tCons (tFld K (tVar 0) "wide") tNil)))))
  (tRet (tOp (rIxL K) (tOp (rIxL K) (tFld K (tVar 0) "costs") (tVar 1)) (tOp oSub (tVar 2) (tVar 1)))))
section
variable {P : Program} {w : World} {K : PySem.W.Frag} {mg : Str → Option Value} {base : Heap}
theorem w_Costs_of (T : Txt w K mg) (cdv : Value) (A : Around) (outer : List Env) (s : Shared) (H : Hp) (E : XK) (hr : Room 3 (A.deeper (envOfC "Costs.of" (defScope s_Costs_of) s.heap.objs.size (He.ma K (He.ga K "Costs") "of") cdv))) :
    PSs (cxOf CX0 P w K mg base ["self", "begin", "end"] "Costs.of" (defScope s_Costs_of) (He.ma K (He.ga K "Costs") "of") cdv A outer s H E).nox (defBody s_Costs_of) (t_Costs_of K) := by
  obtain ⟨⟨fd_need_span, F_need_span, b_need_span⟩, k_need_span⟩ := ok_need_span (P := P) (base := base) T
  exact (pss_cons (ps_expr (pe_call F_need_span (hr.mono (by decide)) (by exact rfl) T.g_need_span k_need_span b_need_span .nil pass0 (pa_cons (pv 1) (pa_cons (pv 2) (pa_cons (pe_fld (pv 0) rfl) pa_nil)))))
  (pss_one (ps_ret (pe_ix ix_list (pe_ix ix_list (pe_fld (pv 0) rfl) (pv 1) (fun _ _ => rfl)) (pe_op op_sub (pv 2) (pv 1)) (fun _ _ => rfl)))))
theorem r_Costs_of (T : Txt w K mg) (vs : List V) (H : Hp) (Q : VK) (E : XK) (h : sp_Costs_of K vs H Q E) : t_Costs_of K { nx := fun _ H' => Q .non H', rt := Q } (start ["self", "begin", "end"] vs) H := by
  obtain ⟨S, q, n, c, rfl, eS, ⟨dx, s, t, v, rows, hq, hv, row, h0, hn⟩, k⟩ := h
  obtain ⟨p, vs, rfl, hp, hA⟩ := hv.lst_
  obtain ⟨u, hu, hat⟩ := hA.getF h0
  obtain ⟨r, rfl, hr⟩ := hat.il_
  refine x_dropC (c_call (va_3 (val_var rfl) (val_var rfl) (val_fld (val_var rfl) (eS _ _ hq) T.cl_Costs T.na_Costs_wide (co_wide _ _ _ _))) ⟨0, (n : Nat), (n : Nat), rfl, Int.le_refl _, by omega, Int.le_refl _, ?_⟩)
  refine x_ret (val_ixL (val_ixL (val_fld (val_var rfl) (eS _ _ hq) T.cl_Costs T.na_Costs_costs (co_costs _ _ _ _)) (val_var rfl) (eS _ _ hp) (at_nat (j := 0) rfl hu)) (val_I0 (val_var rfl) (val_var rfl)) (eS _ _ hr) (at_nat (j := n) (by omega) (map_get hn))) k
theorem ok_Costs_of (T : Txt w K mg) : Df P w K mg base 4 (He.ma K (He.ga K "Costs") "of") ["self", "begin", "end"] (sp_Costs_of K) :=
  df_of T.f_Costs_of sc_Costs_of (fun _ _ _ _ _ _ us hl => match us, hl with | [_, _, _], _ => rfl) (fun vs H Q E h => by
    obtain ⟨S, q, n, c, rfl, _⟩ := h
    rfl) (fun cdv A outer s H E hr => w_Costs_of T cdv A outer s H E hr) (fun vs H Q E h => r_Costs_of T vs H Q E h)
end
end Pk
namespace Pk
open PySem PySem.Spec
open PyProof.Rows L2
open LamX NdefX
/-! ## law -/
theorem sc_law : FnScope ["_law_script", "_law_first", "_law_drawn", "_law_second", "_law_further", "_law_third", "_law_at", "_law_through", "_law_whole"] ["_law_script"] (defScope s_law) := ⟨rfl, rfl, rfl, by decide +kernel, rfl, by decide +kernel, by decide +kernel⟩
def sp_law (K : PySem.W.Frag) : Sp := fun vs H Q _ => ∃ (p : Addr) (ns : List Int), vs = [.ref p] ∧ SqL K H p (ns.map V.int) ∧ ns.length ≤ 63 ∧ H (bT K).2 = some (.tbl #[]) ∧ ∀ H', Q (.bl true) H'
def t_law (K : PySem.W.Frag) : TS := (tSeq (tAsg (tCall (sp_law_row K) [] E0 (tCons (tCall (sp_law_cell_at K) [] E0 (tCons (tVar 0) (tCons (tC (.int 0)) tNil))) (tCons (tC (.int 24)) tNil))) (gName 1))
  (tSeq (tAsg (tCall (sp_law_list K) [] E0 (tCons (tVar 1) (tCons (tSl2 K 1 (tVar 0)) (tCons (tC (.int 24)) tNil)))) (gName 2))
  (tSeq (tAsg (tCall (sp_law_new K) [] E0 (tCons (tVar 2) tNil)) (gName 3))
  (tSeq (tAsg (tCall (sp_law_list K) [] E0 (tCons (tVar 3) (tCons (tSl2 K 2 (tVar 0)) (tCons (tC (.int 24)) tNil)))) (gName 4))
  (tSeq (tAsg (tCall (sp_law_new K) [] E0 (tCons (tVar 4) tNil)) (gName 5))
  (tSeq (tAsg (tCall (sp_law_cell_at K) [] E0 (tCons (tVar 0) (tCons (tC (.int 1)) tNil))) (gName 6))
  (tSeq (tIfS (tOr (tNot (tB (tCall (sp_law_both_ways K) [] E0 (tCons (tVar 1) (tCons (tVar 3) (tCons (tVar 2) (tCons (tVar 6) tNil))))))) (tNot (tB (tCall (sp_law_both_ways K) [] E0 (tCons (tVar 3) (tCons (tVar 5) (tCons (tVar 4) (tCons (tOp oFdv (tVar 6) (tC (.int 7))) tNil)))))))) (tRet (tC (.bl false))) tNext)
  (tSeq (tAsg (tCall (sp_after K) [] E0 (tCons (tCall (sp_changes_of K) [] E0 (tCons (tVar 1) (tCons (tVar 3) tNil))) (tCons (tCall (sp_changes_of K) [] E0 (tCons (tVar 3) (tCons (tVar 5) tNil))) tNil))) (gName 7))
  (tSeq (tIfS (tNot (tB (tCall (sp_law_leads K) [] E0 (tCons (tVar 7) (tCons (tVar 1) (tCons (tVar 5) tNil)))))) (tRet (tC (.bl false))) tNext)
  (tSeq (tAsg (tCall (sp_cost K) [] E0 (tCons (tVar 1) (tCons (tVar 5) tNil))) (gName 8))
  (tSeq (tIfS (tOr (tTest (tOp oGt (tVar 8) (tCall (sp_law_pays K) [] E0 (tCons (tVar 7) tNil)))) (tTest (tOp oGt (tCall (sp_law_pays K) [] E0 (tCons (tVar 7) tNil)) (tOp oAdd (tCall (sp_cost K) [] E0 (tCons (tVar 1) (tCons (tVar 3) tNil))) (tCall (sp_cost K) [] E0 (tCons (tVar 3) (tCons (tVar 5) tNil))))))) (tRet (tC (.bl false))) tNext)
  (tSeq (tIfS (tOr (tTest (tOp oGt (tVar 8) (tCB cMax2 (tCons (tCB cLenS (tCons (tVar 1) tNil)) (tCons (tCB cLenS (tCons (tVar 5) tNil)) tNil))))) (tTest (tOp oLt (tVar 8) (tCB cAbs (tCons (tOp oSub (tCB cLenS (tCons (tVar 1) tNil)) (tCB cLenS (tCons (tVar 5) tNil))) tNil))))) (tRet (tC (.bl false))) tNext)
  (tRet (tAndV (tOp rEq (tMeth (He.ga K "Costs") "of" (sp_Costs_of K) [] E0 (tMake (He.ga K "Costs") (sp_Costs_init K) [] E0 (tCons (tVar 1) (tCons (tVar 5) tNil))) (tCons (tC (.int 0)) (tCons (tCB cLenS (tCons (tVar 5) tNil)) tNil))) (tVar 8)) (tOp rEq (tCall (sp_law_pays K) [] E0 (tCons (tCall (sp_changes_of K) [] E0 (tCons (tVar 1) (tCons (tVar 5) tNil))) tNil)) (tVar 8))))))))))))))))
section
variable {P : Program} {w : World} {K : PySem.W.Frag} {mg : Str → Option Value} {base : Heap}
theorem w_law (T : Txt w K mg) (TB : TabB base mg (bT K).1 (bT K).2) (cdv : Value) (A : Around) (outer : List Env) (s : Shared) (H : Hp) (E : XK) (hr : Room 11 (A.deeper (envOfC "law" (defScope s_law) s.heap.objs.size (He.ga K "law") cdv))) :
    PSs (cxOf CX0 P w K mg base ["_law_script", "_law_first", "_law_drawn", "_law_second", "_law_further", "_law_third", "_law_at", "_law_through", "_law_whole"] "law" (defScope s_law) (He.ga K "law") cdv A outer s H E).nox (defBody s_law) (t_law K) := by
  obtain ⟨⟨fd_law_cell_at, F_law_cell_at, b_law_cell_at⟩, k_law_cell_at⟩ := ok_law_cell_at (P := P) (base := base) T
  obtain ⟨⟨fd_law_row, F_law_row, b_law_row⟩, k_law_row⟩ := ok_law_row (P := P) (base := base) T
  obtain ⟨⟨fd_law_list, F_law_list, b_law_list⟩, k_law_list⟩ := ok_law_list (P := P) (base := base) T
  obtain ⟨⟨fd_law_new, F_law_new, b_law_new⟩, k_law_new⟩ := ok_law_new (P := P) (base := base) T
  obtain ⟨⟨fd_law_both_ways, F_law_both_ways, b_law_both_ways⟩, k_law_both_ways⟩ := ok_law_both_ways (P := P) (base := base) T
  obtain ⟨⟨fd_changes_of, F_changes_of, b_changes_of⟩, k_changes_of⟩ := ok_changes_of (P := P) (base := base) T
  obtain ⟨⟨fd_after, F_after, b_after⟩, k_after⟩ := ok_after (P := P) (base := base) T
  obtain ⟨⟨fd_law_leads, F_law_leads, b_law_leads⟩, k_law_leads⟩ := ok_law_leads (P := P) (base := base) T
  obtain ⟨⟨fd_cost, F_cost, b_cost⟩, k_cost⟩ := ok_cost (P := P) (base := base) T
  obtain ⟨⟨fd_law_pays, F_law_pays, b_law_pays⟩, k_law_pays⟩ := ok_law_pays (P := P) (base := base) T
  obtain ⟨⟨fd_Costs_init, F_Costs_init, b_Costs_init⟩, k_Costs_init⟩ := ok_Costs_init (P := P) (base := base) T TB
  obtain ⟨⟨fd_Costs_of, F_Costs_of, b_Costs_of⟩, k_Costs_of⟩ := ok_Costs_of (P := P) (base := base) T
  exact (pss_cons (ps_set (i := 1) sc_law.nd rfl (Or.inl rfl) (pe_call F_law_row (hr.mono (by decide)) (by exact rfl) T.g_law_row k_law_row b_law_row .nil pass0 (pa_cons (pe_call F_law_cell_at (hr.mono (by decide)) (by exact rfl) T.g_law_cell_at k_law_cell_at b_law_cell_at .nil pass0 (pa_cons (pv 0) (pa_cons pe_int pa_nil))) (pa_cons pe_int pa_nil))))
  (pss_cons (ps_set (i := 2) sc_law.nd rfl (Or.inl rfl) (pe_call F_law_list (hr.mono (by decide)) (by exact rfl) T.g_law_list k_law_list b_law_list .nil pass0 (pa_cons (pv 1) (pa_cons (pe_sl21 (pv 0)) (pa_cons pe_int pa_nil)))))
  (pss_cons (ps_set (i := 3) sc_law.nd rfl (Or.inl rfl) (pe_call F_law_new (hr.mono (by decide)) (by exact rfl) T.g_law_new k_law_new b_law_new .nil pass0 (pa_cons (pv 2) pa_nil)))
  (pss_cons (ps_set (i := 4) sc_law.nd rfl (Or.inl rfl) (pe_call F_law_list (hr.mono (by decide)) (by exact rfl) T.g_law_list k_law_list b_law_list .nil pass0 (pa_cons (pv 3) (pa_cons (pe_sl22 (pv 0)) (pa_cons pe_int pa_nil)))))
  (pss_cons (ps_set (i := 5) sc_law.nd rfl (Or.inl rfl) (pe_call F_law_new (hr.mono (by decide)) (by exact rfl) T.g_law_new k_law_new b_law_new .nil pass0 (pa_cons (pv 4) pa_nil)))
  (pss_cons (ps_set (i := 6) sc_law.nd rfl (Or.inl rfl) (pe_call F_law_cell_at (hr.mono (by decide)) (by exact rfl) T.g_law_cell_at k_law_cell_at b_law_cell_at .nil pass0 (pa_cons (pv 0) (pa_cons pe_int pa_nil))))
  (pss_cons (ps_if (PW.pt (pw_or (pt_not (pt_val (pe_call F_law_both_ways (hr.mono (by decide)) (by exact rfl) T.g_law_both_ways k_law_both_ways b_law_both_ways .nil pass0 (pa_cons (pv 1) (pa_cons (pv 3) (pa_cons (pv 2) (pa_cons (pv 6) pa_nil))))))) (pw_or1 (pt_not (pt_val (pe_call F_law_both_ways (hr.mono (by decide)) (by exact rfl) T.g_law_both_ways k_law_both_ways b_law_both_ways .nil pass0 (pa_cons (pv 3) (pa_cons (pv 5) (pa_cons (pv 4) (pa_cons (pe_op op_fdiv (pv 6) pe_int) pa_nil)))))))))) (pss_one (ps_ret pe_bl)) pss_nil)
  (pss_cons (ps_set (i := 7) sc_law.nd rfl (Or.inl rfl) (pe_call F_after (hr.mono (by decide)) (by exact rfl) T.g_after k_after b_after .nil pass0 (pa_cons (pe_call F_changes_of (hr.mono (by decide)) (by exact rfl) T.g_changes_of k_changes_of b_changes_of .nil pass0 (pa_cons (pv 1) (pa_cons (pv 3) pa_nil))) (pa_cons (pe_call F_changes_of (hr.mono (by decide)) (by exact rfl) T.g_changes_of k_changes_of b_changes_of .nil pass0 (pa_cons (pv 3) (pa_cons (pv 5) pa_nil))) pa_nil))))
  (pss_cons (ps_if (pt_not (pt_val (pe_call F_law_leads (hr.mono (by decide)) (by exact rfl) T.g_law_leads k_law_leads b_law_leads .nil pass0 (pa_cons (pv 7) (pa_cons (pv 1) (pa_cons (pv 5) pa_nil)))))) (pss_one (ps_ret pe_bl)) pss_nil)
  (pss_cons (ps_set (i := 8) sc_law.nd rfl (Or.inl rfl) (pe_call F_cost (hr.mono (by decide)) (by exact rfl) T.g_cost k_cost b_cost .nil pass0 (pa_cons (pv 1) (pa_cons (pv 5) pa_nil))))
  (pss_cons (ps_if (PW.pt (pw_or (pt_cmpR op_gt (pv 8) (pe_call F_law_pays (hr.mono (by decide)) (by exact rfl) T.g_law_pays k_law_pays b_law_pays .nil pass0 (pa_cons (pv 7) pa_nil)) (nomark _)) (pw_or1 (pt_cmpR op_gt (pe_call F_law_pays (hr.mono (by decide)) (by exact rfl) T.g_law_pays k_law_pays b_law_pays .nil pass0 (pa_cons (pv 7) pa_nil)) (pe_op op_add (pe_call F_cost (hr.mono (by decide)) (by exact rfl) T.g_cost k_cost b_cost .nil pass0 (pa_cons (pv 1) (pa_cons (pv 3) pa_nil))) (pe_call F_cost (hr.mono (by decide)) (by exact rfl) T.g_cost k_cost b_cost .nil pass0 (pa_cons (pv 3) (pa_cons (pv 5) pa_nil)))) (nomark _))))) (pss_one (ps_ret pe_bl)) pss_nil)
  (pss_cons (ps_if (PW.pt (pw_or (pt_cmpR op_gt (pv 8) (pe_callB (cl_max2 rfl) (by exact rfl) T.n_max (by decide +kernel) (pa_cons (pe_callB cl_lenS (by exact rfl) T.n_len PySem.boot_len (pa_cons (pv 1) pa_nil)) (pa_cons (pe_callB cl_lenS (by exact rfl) T.n_len PySem.boot_len (pa_cons (pv 5) pa_nil)) pa_nil))) (nomark _)) (pw_or1 (pt_cmpR op_lt (pv 8) (pe_callB cl_abs (by exact rfl) T.n_abs (by decide +kernel) (pa_cons (pe_op op_sub (pe_callB cl_lenS (by exact rfl) T.n_len PySem.boot_len (pa_cons (pv 1) pa_nil)) (pe_callB cl_lenS (by exact rfl) T.n_len PySem.boot_len (pa_cons (pv 5) pa_nil))) pa_nil)) (nomark _))))) (pss_one (ps_ret pe_bl)) pss_nil)
  (pss_one (ps_ret (pe_and (pe_cmpR op_eq (pe_meth (pe_make T.mk_Costs F_Costs_init (hr.mono (by decide)) (by exact rfl) T.g_Costs b_Costs_init .nil pass0 (pa_cons (pv 1) (pa_cons (pv 5) pa_nil))) T.cl_Costs T.me_Costs_of F_Costs_of (hr.mono (by decide)) b_Costs_of .nil pass0 (pa_cons pe_int (pa_cons (pe_callB cl_lenS (by exact rfl) T.n_len PySem.boot_len (pa_cons (pv 5) pa_nil)) pa_nil))) (pv 8) (nomark _)) (pe_one (pe_cmpR op_eq (pe_call F_law_pays (hr.mono (by decide)) (by exact rfl) T.g_law_pays k_law_pays b_law_pays .nil pass0 (pa_cons (pe_call F_changes_of (hr.mono (by decide)) (by exact rfl) T.g_changes_of k_changes_of b_changes_of .nil pass0 (pa_cons (pv 1) (pa_cons (pv 5) pa_nil))) pa_nil)) (pv 8) (nomark _))))))))))))))))))
theorem c_methCC {C : Addr} {m : Str} {sp : Sp} {E : XK} {te : TE} {tr : TA} {σ : L2.St} {H : Hp} {Q : VK} (h : te σ H fun x H1 => ∃ a dx fs, x = .ref a ∧ H1 a = some (.ins C dx fs) ∧ fs.lookup m = none ∧ tr σ H1 fun vs H2 => sp (.ref a :: vs) H2 Q E) : tMeth C m sp [] E te tr σ H Q := by
  have e : ∀ x H1, (∃ a dx fs, x = V.ref a ∧ H1 a = some (.ins C dx fs) ∧ fs.lookup m = none ∧ tr σ H1 fun vs H2 => sp (.ref a :: vs) H2 Q E) = (∃ a dx fs, x = V.ref a ∧ H1 a = some (.ins C dx fs) ∧ fs.lookup m = none ∧ tr σ H1 fun vs H2 => sp (x :: (vs ++ [])) H2 Q E) := fun x H1 => propext ⟨fun ⟨a, dx, fs, h1, h2, h3, h4⟩ => ⟨a, dx, fs, h1, h2, h3, by subst h1; simpa using h4⟩, fun ⟨a, dx, fs, h1, h2, h3, h4⟩ => ⟨a, dx, fs, h1, h2, h3, by subst h1; simpa using h4⟩⟩
  simp only [e] at h
  exact h
theorem and_C {ta tb : TE} {σ : L2.St} {H : Hp} {Q : VK} (h : ta σ H fun x H1 => ∃ a, x = .bl a ∧ if a = true then tb σ H1 Q else Q (.bl false) H1) : tAndV ta tb σ H Q := h
theorem r_law (T : Txt w K mg) (vs : List V) (H : Hp) (Q : VK) (E : XK) (h : sp_law K vs H Q E) : t_law K { nx := fun _ H' => Q .non H', rt := Q } (start ["_law_script", "_law_first", "_law_drawn", "_law_second", "_law_further", "_law_third", "_law_at", "_law_through", "_law_whole"] vs) H := by
  obtain ⟨p, ns, rfl, hp, zn, htb, k⟩ := h
  have t0 : TabS H (bT K).2 lam_q := TabS.nil htb
  refine x_setC (c_callM (cons_C (c_call (va_2 (val_var rfl) val_c) ⟨p, ns, 0, rfl, hp, .inl rfl, fun z => cons_V val_c ⟨z, rfl, fun H1 a e1 hpa => ?_⟩⟩)))
  have za := hpa.1
  have g1 : Gw (fun _ => none) H (fun _ => none) H1 := (Gw.refl (fun _ _ q => by cases q)).any e1
  -- the first list of changes
  refine x_setC (c_callM (cons_V (val_var rfl) (cons_C ⟨_, rfl, p, _, rfl, g1.h.sq hp, fun q hq => cons_V val_c ?_⟩)))
  have g2 := g1.put (o := .lst (evN 1 (ns.map V.int))) hq
  have kq : upd (fun _ => none) q (.lst (evN 1 (ns.map V.int))) q = some (.lst ((evN 1 ns).map V.int)) := by rw [upd_same, evN_ints]
  have zq : (evN 1 ns).length ≤ 1000 := by rw [evN_length 1 ns (by omega)]; omega
  generalize upd (fun _ => none) q (.lst (evN 1 (ns.map V.int))) = S2 at g2 kq
  refine ⟨S2, a, q, evN 1 ns, rfl, g2.i, hpa, kq, zq, fun S3 H3 v1 cs g3 hv1 hcs ho hpb => ?_⟩
  have g4 := g2.trans g3
  have zc := hcs.1
  refine x_setC (c_call (va_1 (val_var rfl)) ⟨S3, v1, cs, rfl, g3.i, hv1, by omega, fun H4 e4 => ?_⟩)
  have g5 := g4.any e4
  obtain ⟨b, hb⟩ : ∃ b, news cs = b := ⟨_, rfl⟩
  rw [hb] at hpb ⊢
  have zb := hpb.1
  -- the second one
  refine x_setC (c_callM (cons_V (val_var rfl) (cons_C ⟨_, rfl, p, _, rfl, g5.h.sq hp, fun q hq => cons_V val_c ?_⟩)))
  have g6 := g5.put (o := .lst (evN 2 (ns.map V.int))) hq
  have kq2 : upd S3 q (.lst (evN 2 (ns.map V.int))) q = some (.lst ((evN 2 ns).map V.int)) := by rw [upd_same, evN_ints]
  have zq2 : (evN 2 ns).length ≤ 1000 := by rw [evN_length 2 ns (by omega)]; omega
  have hv1' : At (upd S3 q (.lst (evN 2 (ns.map V.int)))) v1 (eChs cs) := hv1.mono (Ex.new (g5.freeS hq))
  generalize upd S3 q (.lst (evN 2 (ns.map V.int))) = S4 at g6 kq2 hv1'
  refine ⟨S4, b, q, evN 2 ns, rfl, g6.i, hpb, kq2, zq2, fun S5 H5 v2 ds g7 hv2 hds ho2 hpc => ?_⟩
  have g8 := g6.trans g7
  have zd := hds.1
  have hv1s := hv1'.mono g7.s
  refine x_setC (c_call (va_1 (val_var rfl)) ⟨S5, v2, ds, rfl, g7.i, hv2, by omega, fun H6 e6 => ?_⟩)
  have g9 := g8.any e6
  obtain ⟨c, hc⟩ : ∃ c, news ds = c := ⟨_, rfl⟩
  rw [hc] at hpc ⊢
  have zcc := hpc.1
  refine x_setC (c_call (va_2 (val_var rfl) val_c) ⟨p, ns, 1, rfl, g9.h.sq hp, .inr rfl, fun y => ?_⟩)
  -- both ways, twice
  refine x_ifC (orN_C (c_call (va_cons (val_var rfl) (va_3 (val_var rfl) (val_var rfl) (val_var rfl))) ⟨S5, a, b, v1, cs, y, rfl, g9.i, hv1s, hpa, hpb, hcs, ho, hb, fun H7 e7 => ⟨_, rfl, iteE rfl ?_⟩⟩))
  have g10 := g9.any e7
  refine notb_C (c_call (va_cons (val_var rfl) (va_3 (val_var rfl) (val_var rfl) (val_I (val_var rfl) val_c ⟨by decide, by decide⟩))) ⟨S5, b, c, v2, ds, y / 7, rfl, g10.i, hv2, hpb, hpc, hds, ho2, hc, fun H8 e8 => ⟨_, rfl, iteE rfl ?_⟩⟩)
  have g11 := g10.any e8
  -- one after the other
  obtain ⟨c1, c2, c3, c4⟩ := chg_all hpa hpb
  obtain ⟨d1, d2, d3, d4⟩ := chg_all hpb hpc
  have hcd : news (chg a b) = olds (chg b c) := by rw [c2, d1]
  obtain ⟨a1, a2, a3⟩ := aft_all (chg a b) (chg b c) hcd
  have alen := aft_len (chg a b) (chg b c) hcd
  rw [c1] at a1
  rw [d2] at a2
  rw [c1, d2] at alen
  rw [c3, d3] at a3
  have apay := cost_le (aft (chg a b) (chg b c))
  rw [a1, a2] at apay
  refine x_setC (c_callM (cons_C (c_call (va_2 (val_var rfl) (val_var rfl)) ⟨S5, a, b, rfl, g11.i, hpa, hpb, fun S6 H9 w1 h1 hw1 => cons_C (c_call (va_2 (val_var rfl) (val_var rfl)) ⟨S6, b, c, rfl, h1.i, hpb, hpc, fun S7 H10 w2 h2 hw2 => ⟨S7, w1, w2, chg a b, chg b c, rfl, h2.i, hw1.mono h2.s, hw2, c4, d4, hcd, by omega, fun S8 H11 w3 h3 hw3 => ?_⟩⟩)⟩)))
  have g12 := ((g11.trans h1).trans h2).trans h3
  refine x_ifC (notb_C (c_call (va_3 (val_var rfl) (val_var rfl) (val_var rfl)) ⟨S8, w3, aft (chg a b) (chg b c), by rw [a1, a2], g12.i, hw3, by omega, fun H12 e12 => ⟨_, rfl, iteE rfl ?_⟩⟩))
  have g13 := g12.any e12
  refine x_setC (c_call (va_2 (val_var rfl) (val_var rfl)) ⟨a, c, rfl, hpa, hpc, fun H13 e13 => ?_⟩)
  have g14 := g13.any e13
  obtain ⟨r1, r2, r3⟩ := ed_ge a c a.length c.length
  refine x_ifC (orT_C (op_C ((val_var rfl) _ (c_call (va_1 (val_var rfl)) ⟨S8, w3, _, rfl, g14.i, hw3, by omega, fun H14 e14 => ⟨_, _, rfl, rfl, ⟨_, rfl, iteE (decide_eq_false (by omega)) ?_⟩⟩⟩))))
  have g15 := g14.any e14
  refine tst_C (op_C (c_call (va_1 (val_var rfl)) ⟨S8, w3, _, rfl, g15.i, hw3, by omega, fun H15 e15 => op_C (c_call (va_2 (val_var rfl) (val_var rfl)) ⟨a, b, rfl, hpa, hpb, fun H16 e16 => c_call (va_2 (val_var rfl) (val_var rfl)) ⟨b, c, rfl, hpb, hpc, fun H17 e17 => ⟨_, _, rfl, rfl, ⟨_, _, rfl, rfl, ⟨_, rfl, iteE (decide_eq_false (by omega)) ?_⟩⟩⟩⟩⟩)⟩))
  have g16 := ((g15.any e15).any e16).any e17
  refine x_no (Ans.to (ans_orW (a := false) (b := false) (Ans.to (ans_te (val_I0 (val_var rfl) (val_max2 (val_lenS (val_var rfl) (by omega)) (val_lenS (val_var rfl) (by omega))))) (decide_eq_false (by split <;> omega))) (fun _ => Ans.to (ans_te (val_I0 (val_var rfl) (val_abs (val_I0 (val_lenS (val_var rfl) (by omega)) (val_lenS (val_var rfl) (by omega)))))) (decide_eq_false (by split <;> omega)))) rfl) ?_
  -- the costs by the lines
  refine x_retC ?_
  refine and_C (op_C (c_methCC (c_make (va_2 (val_var rfl) (val_var rfl)) fun x dx k1 k2 k3 => ?_)))
  have eN : Ex H17 (upd (upd H17 dx (.own x)) x (.ins (He.ga K "Costs") dx [])) := (Ex.new k2).trans (Ex.new (by rw [upd_ne k3.symm]; exact k1))
  refine ⟨x, dx, a, c, rfl, upd_same, (t0.ext g16.h).ext eN, hpa, hpc, fun S9 H18 i18 oc => ⟨rfl, ?_⟩⟩
  have oc' := oc
  obtain ⟨dy, s1, s2, v, rows, hx, _⟩ := oc'
  refine ⟨x, dy, _, rfl, i18 _ _ hx, co_of _ _ _ _, (va_2 val_c (val_lenS (val_var rfl) (by omega))) _ ⟨S9, x, c.length, _, rfl, i18, oc, (val_var rfl) _ ⟨rfl, ⟨_, rfl, iteY (decide_eq_true rfl) ?_⟩⟩⟩⟩
  obtain ⟨f1, f2, f3, f4⟩ := chg_all hpa hpc
  have zf := f4.1
  refine op_C (c_callM (cons_C (c_call (va_2 (val_var rfl) (val_var rfl)) ⟨S9, a, c, rfl, i18, hpa, hpc, fun S10 H19 w4 h4 hw4 => ⟨S10, w4, _, rfl, h4.i, hw4, by omega, fun H20 e20 => (val_var rfl) _ ⟨rfl, ?_⟩⟩⟩)))
  rw [f3, decide_eq_true rfl]
  exact k H20
theorem ok_law (T : Txt w K mg) (TB : TabB base mg (bT K).1 (bT K).2) : Df P w K mg base 12 (He.ga K "law") ["_law_script"] (sp_law K) :=
  df_of T.f_law sc_law (fun _ _ _ _ _ _ us hl => match us, hl with | [_], _ => rfl) (fun vs H Q E h => by
    obtain ⟨p, ns, rfl, _⟩ := h
    rfl) (fun cdv A outer s H E hr => w_law T TB cdv A outer s H E hr) (fun vs H Q E h => r_law T vs H Q E h)
end
end Pk
namespace Pk
open PySem PySem.Spec
open PyProof.Rows L2
open LamX NdefX
/-! ### the end -/
theorem facts {w : World} {K : PySem.W.Frag} {h : Heap} {mg : Str → Option Value} {f : Addr} (X : K.In h) (G : h.Ns mainGlobals mg) (hfa : mg ("law" : Str) = some (.ref f)) (c : He.SaysX fa fn ts tf ex w h K) :
    LawAtS PySem.Challenge.rw_panethread_k66_whole_no_changes_pay_less w K CX0 12 63 "_law_script" mg f h := by
  have T : Txt w K mg := ⟨c.t, c.more, ⟨h, X, G⟩⟩
  obtain ⟨fd, F⟩ := T.f_law
  have e := hfa.symm.trans T.g_law
  cases e
  have b := FunD.bindsA (ps := ["_law_script"]) F fun _ _ _ _ _ _ us hl => match us, hl with | [_], _ => rfl
  have one : ∀ p ∈ [bT K], p = bT K := fun p hp => List.mem_singleton.mp hp
  have htf : (("Board", some "__init__") : He.Defn) ∈ tf := List.mem_singleton.mpr rfl
  refine ⟨fd, [bT K], sp_law K, fun p hp => ?_, fun p hp => ?_, fun p hp => ?_, fun s v => b s [v] rfl, fun H a ns hl _ hT hS => ?_, fun base _ _ hB => ?_⟩
  · rw [one p hp]; exact c.empty _ htf
  · rw [one p hp]; exact c.out _ htf
  · rw [one p hp]; exact PySem.W.codeHd_of_K X (c.hd _ htf)
  · exact ⟨a, ns, rfl, hS, hl, hT (bT K) (List.mem_singleton.mpr rfl), fun _ => rfl⟩
  · have TB := hB (bT K) (List.mem_singleton.mpr rfl)
    exact F.ok sc_law (fun vs H Q E q => by
      obtain ⟨p, ns, rfl, _⟩ := q
      rfl) fun cdv A outer s H vs Q E hr q => ⟨t_law K, (w_law T TB cdv A outer s H E hr).nox, r_law T vs H Q E q⟩
end Pk
open PySem PySem.W
open PySem.Calls PyProof.Rows
theorem PySem.Challenge.cw_panethread_k66_whole_no_changes_pay_less_holds : PySem.Challenge.rw_panethread_k66_whole_no_changes_pay_less.Holds := by
  w_on; o_law
  refine HandSHeadRun.head_any (r := Pk.R) (q := view Pk.R.prog [90]) (H := Pk.hk) (ob := Pk.ob) (M := 9000) (loose := Pk.nms) (d := HandSHeadRun.topDef Pk.R.prog 90) (kwd := []) Pk.ob_eq
    (by kernel_rfl) (fun s => by kernel_rfl) Pk.run (by kernel_rfl) (by kernel_rfl) (by kernel_rfl) (by rfl) (by first | assumption | decide +kernel) (by decide +kernel) ⟨rfl, rfl, rfl, rfl, rfl, by decide +kernel⟩ ?hw ?hc
  case hw => w_witness2
  case hc =>
    refine LamX.walk_ofTsE (l := PySem.Challenge.rw_panethread_k66_whole_no_changes_pay_less) (n := 63) (k := 12) (x := "_law_script") (CX := fun _ => L2.CX0) rfl (by decide) (by kernel_rfl) ⟨rfl, by decide, by decide⟩ ?F (fun _ _ _ _ _ z => z)
    intro w mg fa h Y G hmg0
    obtain ⟨K, KX, c⟩ := Y
    have hmg : mg ("law" : PySem.Str) = some (.ref fa) := by
      have e : (HandSHeadRun.topDef Pk.R.prog 90).name = ("law" : PySem.Str) := by kernel_rfl
      rw [← e]
      exact hmg0
    exact ⟨K, KX, Pk.facts KX G hmg c⟩
