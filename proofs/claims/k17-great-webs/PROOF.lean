import PyProof.Rows.All
import Wide.All
import OpenK.AllK
import Wide.FinOn
import KE.KStateDown
import HandS.Base
import HandS.Call
import HandS.Ends
import HandS.More
import HandS.Words
import HandS.WordsExc
import HandS.Defaults
import HandS.Head0
import HandS.Head1
import HandS.Head2
import HandS.HeadEnd
import HandS.HeadHook1
import HandS.HeadHook2
import HandS.HeadHook3
import HandS.HeadHook4
import PySem.Challenge.RW_leftwithout_k17_whole_great_webs_by_pape
import PyProof.EqAt
import PyProof.EqKinds
import PyProof.TupleCall
import HandS.ForMost
import HandS.TupAny
import HandS.Style
import HandS.IsInst
import HandS.DictComp
import HandS.ForExc
import HandS.SortInts
import HandS.Conv
import HandS.Zip
import HandS.Flow
import KE.GoesEnum
import HandS.Iter
import HandS.Strs
import HandS.SetFor
import KE.SortData
import HandS.ExcOwn
import HandS.ExcIs
set_option Elab.async false
set_option linter.all false
section
set_option maxRecDepth 100000
set_option maxHeartbeats 4000000
/-! The defs of the text. -/
namespace K17
open PySem PySem.Spec PyProof.Rows L2
abbrev pw : Program := PySem.Challenge.pw_leftwithout_k17_whole_great_webs_by_pape
def top (i : Nat) : Stmt := pw.main.body.getD i (.Pass ⟨0, 0, 0, 0⟩)
abbrev s_is_number : Stmt := top 5
abbrev s_is_from : Stmt := top 6
abbrev s_is_within : Stmt := top 7
abbrev s_is_long : Stmt := top 8
abbrev s_tupled : Stmt := top 9
abbrev s_ascends : Stmt := top 10
abbrev s_set_of : Stmt := top 11
abbrev s_is_guest_of : Stmt := top 13
abbrev s_is_web : Stmt := top 14
abbrev s_sure_web : Stmt := top 15
abbrev s_sure_guest : Stmt := top 16
abbrev s_unwanted_in : Stmt := top 17
abbrev s_is_lot_in : Stmt := top 19
abbrev s_sure_lot : Stmt := top 20
abbrev s_others_in : Stmt := top 21
abbrev s_beside_by : Stmt := top 22
abbrev s_part_from : Stmt := top 23
abbrev s_parts_in : Stmt := top 24
abbrev s_guests_in : Stmt := top 25
abbrev s_way_from : Stmt := top 26
abbrev s_round_of : Stmt := top 27
abbrev s_both_sure : Stmt := top 29
abbrev s_met_by : Stmt := top 30
abbrev s_spare_in : Stmt := top 31
abbrev s_is_tree_in : Stmt := top 32
abbrev s_is_bad : Stmt := top 33
abbrev s_bad_in : Stmt := top 34
abbrev s_can_be_without : Stmt := top 35
abbrev s_next_to : Stmt := top 36
abbrev s_grown_from : Stmt := top 37
abbrev s_seated_round : Stmt := top 38
abbrev s_kept_in : Stmt := top 39
abbrev s_order_by : Stmt := top 40
abbrev s_trees_of : Stmt := top 41
abbrev s_order_in_lot : Stmt := top 42
abbrev s_sure_free : Stmt := top 43
abbrev s_order_for : Stmt := top 44
abbrev s_why_not : Stmt := top 45
abbrev s_spare_places : Stmt := top 46
abbrev s_how_many_free : Stmt := top 47
abbrev s_sure_places : Stmt := top 48
abbrev s_order_leaving : Stmt := top 49
abbrev s_barring_in : Stmt := top 51
abbrev s_can_together : Stmt := top 52
abbrev s_is_never : Stmt := top 53
abbrev s_never_without : Stmt := top 54
abbrev s_rivals : Stmt := top 55
abbrev s_lot_grown : Stmt := top 56
abbrev s_lot_sure : Stmt := top 57
abbrev s_lot_with : Stmt := top 58
abbrev s_order_with : Stmt := top 59
abbrev s_why_never : Stmt := top 60
abbrev s__law_box : Stmt := top 62
abbrev s__law_take : Stmt := top 63
abbrev s__law_cells : Stmt := top 64
abbrev s__law_of : Stmt := top 65
abbrev s__law_pick : Stmt := top 66
abbrev s__law_lists : Stmt := top 67
abbrev s__law_same : Stmt := top 68
abbrev s__law_unwanted : Stmt := top 69
abbrev s__law_seat : Stmt := top 70
abbrev s__law_run : Stmt := top 71
abbrev s__law_lacking : Stmt := top 72
abbrev s__law_others : Stmt := top 73
abbrev s__law_parts : Stmt := top 74
abbrev s__law_in_part : Stmt := top 75
abbrev s__law_part_kind : Stmt := top 76
abbrev s__law_free_in : Stmt := top 77
abbrev s__law_bars : Stmt := top 78
abbrev s__law_walk : Stmt := top 79
abbrev s__law_are_within : Stmt := top 80
abbrev s__law_is_walk : Stmt := top 81
abbrev s__law_just : Stmt := top 82
abbrev s__law_all_of : Stmt := top 83
abbrev s__law_barred_by : Stmt := top 84
abbrev s__law_one_of : Stmt := top 85
abbrev s__law_great_net : Stmt := top 86
abbrev s__law_is_heap : Stmt := top 87
abbrev s__law_heard : Stmt := top 88
abbrev s__law_by_hand_right : Stmt := top 89
abbrev s__law_papers_right : Stmt := top 90
abbrev s__law_right : Stmt := top 91
abbrev s__law_never_right : Stmt := top 92
abbrev s_law : Stmt := top 93
end K17
end

section
set_option maxRecDepth 100000
set_option maxHeartbeats 0
namespace K17
open PySem PySem.Spec PyProof.Rows L2
def d_is_number : He.DefD := ⟨("is_number", none), "is_number", "is_number", defArgs s_is_number, defBody s_is_number, defScope s_is_number, [], []⟩
def d_is_from : He.DefD := ⟨("is_from", none), "is_from", "is_from", defArgs s_is_from, defBody s_is_from, defScope s_is_from, [], []⟩
def d_is_within : He.DefD := ⟨("is_within", none), "is_within", "is_within", defArgs s_is_within, defBody s_is_within, defScope s_is_within, [], []⟩
def d_is_long : He.DefD := ⟨("is_long", none), "is_long", "is_long", defArgs s_is_long, defBody s_is_long, defScope s_is_long, [], []⟩
def d_tupled : He.DefD := ⟨("tupled", none), "tupled", "tupled", defArgs s_tupled, defBody s_tupled, defScope s_tupled, [], []⟩
def d_ascends : He.DefD := ⟨("ascends", none), "ascends", "ascends", defArgs s_ascends, defBody s_ascends, defScope s_ascends, [], []⟩
def d_set_of : He.DefD := ⟨("set_of", none), "set_of", "set_of", defArgs s_set_of, defBody s_set_of, defScope s_set_of, [], []⟩
def d_is_guest_of : He.DefD := ⟨("is_guest_of", none), "is_guest_of", "is_guest_of", defArgs s_is_guest_of, defBody s_is_guest_of, defScope s_is_guest_of, [], []⟩
def d_is_web : He.DefD := ⟨("is_web", none), "is_web", "is_web", defArgs s_is_web, defBody s_is_web, defScope s_is_web, [], []⟩
def d_sure_web : He.DefD := ⟨("sure_web", none), "sure_web", "sure_web", defArgs s_sure_web, defBody s_sure_web, defScope s_sure_web, [], []⟩
def d_sure_guest : He.DefD := ⟨("sure_guest", none), "sure_guest", "sure_guest", defArgs s_sure_guest, defBody s_sure_guest, defScope s_sure_guest, [], []⟩
def d_unwanted_in : He.DefD := ⟨("unwanted_in", none), "unwanted_in", "unwanted_in", defArgs s_unwanted_in, defBody s_unwanted_in, defScope s_unwanted_in, [], []⟩
def d_is_lot_in : He.DefD := ⟨("is_lot_in", none), "is_lot_in", "is_lot_in", defArgs s_is_lot_in, defBody s_is_lot_in, defScope s_is_lot_in, [], []⟩
def d_sure_lot : He.DefD := ⟨("sure_lot", none), "sure_lot", "sure_lot", defArgs s_sure_lot, defBody s_sure_lot, defScope s_sure_lot, [], []⟩
def d_others_in : He.DefD := ⟨("others_in", none), "others_in", "others_in", defArgs s_others_in, defBody s_others_in, defScope s_others_in, [], []⟩
def d_beside_by : He.DefD := ⟨("beside_by", none), "beside_by", "beside_by", defArgs s_beside_by, defBody s_beside_by, defScope s_beside_by, [], []⟩
def d_part_from : He.DefD := ⟨("part_from", none), "part_from", "part_from", defArgs s_part_from, defBody s_part_from, defScope s_part_from, [], []⟩
def d_parts_in : He.DefD := ⟨("parts_in", none), "parts_in", "parts_in", defArgs s_parts_in, defBody s_parts_in, defScope s_parts_in, [], []⟩
def d_guests_in : He.DefD := ⟨("guests_in", none), "guests_in", "guests_in", defArgs s_guests_in, defBody s_guests_in, defScope s_guests_in, [], []⟩
def d_way_from : He.DefD := ⟨("way_from", none), "way_from", "way_from", defArgs s_way_from, defBody s_way_from, defScope s_way_from, [], []⟩
def d_round_of : He.DefD := ⟨("round_of", none), "round_of", "round_of", defArgs s_round_of, defBody s_round_of, defScope s_round_of, [], []⟩
def d_both_sure : He.DefD := ⟨("both_sure", none), "both_sure", "both_sure", defArgs s_both_sure, defBody s_both_sure, defScope s_both_sure, [], []⟩
def d_met_by : He.DefD := ⟨("met_by", none), "met_by", "met_by", defArgs s_met_by, defBody s_met_by, defScope s_met_by, [], []⟩
def d_spare_in : He.DefD := ⟨("spare_in", none), "spare_in", "spare_in", defArgs s_spare_in, defBody s_spare_in, defScope s_spare_in, [], []⟩
def d_is_tree_in : He.DefD := ⟨("is_tree_in", none), "is_tree_in", "is_tree_in", defArgs s_is_tree_in, defBody s_is_tree_in, defScope s_is_tree_in, [], []⟩
def d_is_bad : He.DefD := ⟨("is_bad", none), "is_bad", "is_bad", defArgs s_is_bad, defBody s_is_bad, defScope s_is_bad, [], []⟩
def d_bad_in : He.DefD := ⟨("bad_in", none), "bad_in", "bad_in", defArgs s_bad_in, defBody s_bad_in, defScope s_bad_in, [], []⟩
def d_can_be_without : He.DefD := ⟨("can_be_without", none), "can_be_without", "can_be_without", defArgs s_can_be_without, defBody s_can_be_without, defScope s_can_be_without, [], []⟩
def d_next_to : He.DefD := ⟨("next_to", none), "next_to", "next_to", defArgs s_next_to, defBody s_next_to, defScope s_next_to, [], []⟩
def d_grown_from : He.DefD := ⟨("grown_from", none), "grown_from", "grown_from", defArgs s_grown_from, defBody s_grown_from, defScope s_grown_from, [], []⟩
def d_seated_round : He.DefD := ⟨("seated_round", none), "seated_round", "seated_round", defArgs s_seated_round, defBody s_seated_round, defScope s_seated_round, [], []⟩
def d_kept_in : He.DefD := ⟨("kept_in", none), "kept_in", "kept_in", defArgs s_kept_in, defBody s_kept_in, defScope s_kept_in, [], []⟩
def d_order_by : He.DefD := ⟨("order_by", none), "order_by", "order_by", defArgs s_order_by, defBody s_order_by, defScope s_order_by, [], []⟩
def d_trees_of : He.DefD := ⟨("trees_of", none), "trees_of", "trees_of", defArgs s_trees_of, defBody s_trees_of, defScope s_trees_of, [], []⟩
def d_order_in_lot : He.DefD := ⟨("order_in_lot", none), "order_in_lot", "order_in_lot", defArgs s_order_in_lot, defBody s_order_in_lot, defScope s_order_in_lot, [], []⟩
def d_sure_free : He.DefD := ⟨("sure_free", none), "sure_free", "sure_free", defArgs s_sure_free, defBody s_sure_free, defScope s_sure_free, [], []⟩
def d_order_for : He.DefD := ⟨("order_for", none), "order_for", "order_for", defArgs s_order_for, defBody s_order_for, defScope s_order_for, [], []⟩
def d_why_not : He.DefD := ⟨("why_not", none), "why_not", "why_not", defArgs s_why_not, defBody s_why_not, defScope s_why_not, [], []⟩
def d_spare_places : He.DefD := ⟨("spare_places", none), "spare_places", "spare_places", defArgs s_spare_places, defBody s_spare_places, defScope s_spare_places, [], []⟩
def d_how_many_free : He.DefD := ⟨("how_many_free", none), "how_many_free", "how_many_free", defArgs s_how_many_free, defBody s_how_many_free, defScope s_how_many_free, [], []⟩
def d_sure_places : He.DefD := ⟨("sure_places", none), "sure_places", "sure_places", defArgs s_sure_places, defBody s_sure_places, defScope s_sure_places, [], []⟩
def d_order_leaving : He.DefD := ⟨("order_leaving", none), "order_leaving", "order_leaving", defArgs s_order_leaving, defBody s_order_leaving, defScope s_order_leaving, [], []⟩
def d_barring_in : He.DefD := ⟨("barring_in", none), "barring_in", "barring_in", defArgs s_barring_in, defBody s_barring_in, defScope s_barring_in, [], []⟩
def d_can_together : He.DefD := ⟨("can_together", none), "can_together", "can_together", defArgs s_can_together, defBody s_can_together, defScope s_can_together, [], []⟩
def d_is_never : He.DefD := ⟨("is_never", none), "is_never", "is_never", defArgs s_is_never, defBody s_is_never, defScope s_is_never, [], []⟩
def d_never_without : He.DefD := ⟨("never_without", none), "never_without", "never_without", defArgs s_never_without, defBody s_never_without, defScope s_never_without, [], []⟩
def d_rivals : He.DefD := ⟨("rivals", none), "rivals", "rivals", defArgs s_rivals, defBody s_rivals, defScope s_rivals, [], []⟩
def d_lot_grown : He.DefD := ⟨("lot_grown", none), "lot_grown", "lot_grown", defArgs s_lot_grown, defBody s_lot_grown, defScope s_lot_grown, [], []⟩
def d_lot_sure : He.DefD := ⟨("lot_sure", none), "lot_sure", "lot_sure", defArgs s_lot_sure, defBody s_lot_sure, defScope s_lot_sure, [], []⟩
def d_lot_with : He.DefD := ⟨("lot_with", none), "lot_with", "lot_with", defArgs s_lot_with, defBody s_lot_with, defScope s_lot_with, [], []⟩
def d_order_with : He.DefD := ⟨("order_with", none), "order_with", "order_with", defArgs s_order_with, defBody s_order_with, defScope s_order_with, [], []⟩
def d_why_never : He.DefD := ⟨("why_never", none), "why_never", "why_never", defArgs s_why_never, defBody s_why_never, defScope s_why_never, [], []⟩
def d__law_box : He.DefD := ⟨("_law_box", none), "_law_box", "_law_box", defArgs s__law_box, defBody s__law_box, defScope s__law_box, [], []⟩
def d__law_take : He.DefD := ⟨("_law_take", none), "_law_take", "_law_take", defArgs s__law_take, defBody s__law_take, defScope s__law_take, [], []⟩
def d__law_cells : He.DefD := ⟨("_law_cells", none), "_law_cells", "_law_cells", defArgs s__law_cells, defBody s__law_cells, defScope s__law_cells, [], []⟩
def d__law_of : He.DefD := ⟨("_law_of", none), "_law_of", "_law_of", defArgs s__law_of, defBody s__law_of, defScope s__law_of, [], []⟩
def d__law_pick : He.DefD := ⟨("_law_pick", none), "_law_pick", "_law_pick", defArgs s__law_pick, defBody s__law_pick, defScope s__law_pick, [], []⟩
def d__law_lists : He.DefD := ⟨("_law_lists", none), "_law_lists", "_law_lists", defArgs s__law_lists, defBody s__law_lists, defScope s__law_lists, [], []⟩
def d__law_same : He.DefD := ⟨("_law_same", none), "_law_same", "_law_same", defArgs s__law_same, defBody s__law_same, defScope s__law_same, [], []⟩
def d__law_unwanted : He.DefD := ⟨("_law_unwanted", none), "_law_unwanted", "_law_unwanted", defArgs s__law_unwanted, defBody s__law_unwanted, defScope s__law_unwanted, [], []⟩
def d__law_seat : He.DefD := ⟨("_law_seat", none), "_law_seat", "_law_seat", defArgs s__law_seat, defBody s__law_seat, defScope s__law_seat, [], []⟩
def d__law_run : He.DefD := ⟨("_law_run", none), "_law_run", "_law_run", defArgs s__law_run, defBody s__law_run, defScope s__law_run, [], []⟩
def d__law_lacking : He.DefD := ⟨("_law_lacking", none), "_law_lacking", "_law_lacking", defArgs s__law_lacking, defBody s__law_lacking, defScope s__law_lacking, [], []⟩
def d__law_others : He.DefD := ⟨("_law_others", none), "_law_others", "_law_others", defArgs s__law_others, defBody s__law_others, defScope s__law_others, [], []⟩
def d__law_parts : He.DefD := ⟨("_law_parts", none), "_law_parts", "_law_parts", defArgs s__law_parts, defBody s__law_parts, defScope s__law_parts, [], []⟩
def d__law_in_part : He.DefD := ⟨("_law_in_part", none), "_law_in_part", "_law_in_part", defArgs s__law_in_part, defBody s__law_in_part, defScope s__law_in_part, [], []⟩
def d__law_part_kind : He.DefD := ⟨("_law_part_kind", none), "_law_part_kind", "_law_part_kind", defArgs s__law_part_kind, defBody s__law_part_kind, defScope s__law_part_kind, [], []⟩
def d__law_free_in : He.DefD := ⟨("_law_free_in", none), "_law_free_in", "_law_free_in", defArgs s__law_free_in, defBody s__law_free_in, defScope s__law_free_in, [], []⟩
def d__law_bars : He.DefD := ⟨("_law_bars", none), "_law_bars", "_law_bars", defArgs s__law_bars, defBody s__law_bars, defScope s__law_bars, [], []⟩
def d__law_walk : He.DefD := ⟨("_law_walk", none), "_law_walk", "_law_walk", defArgs s__law_walk, defBody s__law_walk, defScope s__law_walk, [], []⟩
def d__law_are_within : He.DefD := ⟨("_law_are_within", none), "_law_are_within", "_law_are_within", defArgs s__law_are_within, defBody s__law_are_within, defScope s__law_are_within, [], []⟩
def d__law_is_walk : He.DefD := ⟨("_law_is_walk", none), "_law_is_walk", "_law_is_walk", defArgs s__law_is_walk, defBody s__law_is_walk, defScope s__law_is_walk, [], []⟩
def d__law_just : He.DefD := ⟨("_law_just", none), "_law_just", "_law_just", defArgs s__law_just, defBody s__law_just, defScope s__law_just, [], []⟩
def d__law_all_of : He.DefD := ⟨("_law_all_of", none), "_law_all_of", "_law_all_of", defArgs s__law_all_of, defBody s__law_all_of, defScope s__law_all_of, [], []⟩
def d__law_barred_by : He.DefD := ⟨("_law_barred_by", none), "_law_barred_by", "_law_barred_by", defArgs s__law_barred_by, defBody s__law_barred_by, defScope s__law_barred_by, [], []⟩
def d__law_one_of : He.DefD := ⟨("_law_one_of", none), "_law_one_of", "_law_one_of", defArgs s__law_one_of, defBody s__law_one_of, defScope s__law_one_of, [], []⟩
def d__law_great_net : He.DefD := ⟨("_law_great_net", none), "_law_great_net", "_law_great_net", defArgs s__law_great_net, defBody s__law_great_net, defScope s__law_great_net, [], []⟩
def d__law_is_heap : He.DefD := ⟨("_law_is_heap", none), "_law_is_heap", "_law_is_heap", defArgs s__law_is_heap, defBody s__law_is_heap, defScope s__law_is_heap, [], []⟩
def d__law_heard : He.DefD := ⟨("_law_heard", none), "_law_heard", "_law_heard", defArgs s__law_heard, defBody s__law_heard, defScope s__law_heard, [], []⟩
def d__law_by_hand_right : He.DefD := ⟨("_law_by_hand_right", none), "_law_by_hand_right", "_law_by_hand_right", defArgs s__law_by_hand_right, defBody s__law_by_hand_right, defScope s__law_by_hand_right, [], []⟩
def d__law_papers_right : He.DefD := ⟨("_law_papers_right", none), "_law_papers_right", "_law_papers_right", defArgs s__law_papers_right, defBody s__law_papers_right, defScope s__law_papers_right, [], []⟩
def d__law_right : He.DefD := ⟨("_law_right", none), "_law_right", "_law_right", defArgs s__law_right, defBody s__law_right, defScope s__law_right, [], []⟩
def d__law_never_right : He.DefD := ⟨("_law_never_right", none), "_law_never_right", "_law_never_right", defArgs s__law_never_right, defBody s__law_never_right, defScope s__law_never_right, [], []⟩
def d_law : He.DefD := ⟨("law", none), "law", "law", defArgs s_law, defBody s_law, defScope s_law, [], []⟩
def fnL0 : List He.DefD := [d_is_number, d_is_from, d_is_within, d_is_long, d_tupled, d_ascends, d_set_of, d_is_guest_of, d_is_web, d_sure_web, d_sure_guest, d_unwanted_in, d_is_lot_in, d_sure_lot, d_others_in, d_beside_by, d_part_from, d_parts_in, d_guests_in, d_way_from, d_round_of, d_both_sure, d_met_by, d_spare_in, d_is_tree_in, d_is_bad, d_bad_in, d_can_be_without, d_next_to, d_grown_from]
def fnL1 : List He.DefD := [d_seated_round, d_kept_in, d_order_by, d_trees_of, d_order_in_lot, d_sure_free, d_order_for, d_why_not, d_spare_places, d_how_many_free, d_sure_places, d_order_leaving, d_barring_in, d_can_together, d_is_never, d_never_without, d_rivals, d_lot_grown, d_lot_sure, d_lot_with, d_order_with, d_why_never, d__law_box, d__law_take, d__law_cells, d__law_of, d__law_pick, d__law_lists, d__law_same, d__law_unwanted]
def fnL2 : List He.DefD := [d__law_seat, d__law_run, d__law_lacking, d__law_others, d__law_parts, d__law_in_part, d__law_part_kind, d__law_free_in, d__law_bars, d__law_walk, d__law_are_within, d__law_is_walk, d__law_just, d__law_all_of, d__law_barred_by, d__law_one_of, d__law_great_net, d__law_is_heap, d__law_heard, d__law_by_hand_right, d__law_papers_right, d__law_right, d__law_never_right, d_law]
def fn : List He.DefD := fnL0 ++ fnL1 ++ fnL2
def faL0 : List He.Fa := [.glo "is_number", .glo "is_from", .glo "is_within", .glo "is_long", .glo "tupled", .glo "ascends", .glo "set_of", .glo "is_guest_of", .glo "is_web", .glo "sure_web", .glo "sure_guest", .glo "unwanted_in", .glo "is_lot_in", .glo "sure_lot", .glo "others_in", .glo "beside_by", .glo "part_from", .glo "parts_in", .glo "guests_in", .glo "way_from", .glo "round_of", .glo "both_sure", .glo "met_by", .glo "spare_in", .glo "is_tree_in", .glo "is_bad", .glo "bad_in", .glo "can_be_without", .glo "next_to", .glo "grown_from"]
def faL1 : List He.Fa := [.glo "seated_round", .glo "kept_in", .glo "order_by", .glo "trees_of", .glo "order_in_lot", .glo "sure_free", .glo "order_for", .glo "why_not", .glo "spare_places", .glo "how_many_free", .glo "sure_places", .glo "order_leaving", .glo "barring_in", .glo "can_together", .glo "is_never", .glo "never_without", .glo "rivals", .glo "lot_grown", .glo "lot_sure", .glo "lot_with", .glo "order_with", .glo "why_never", .glo "_law_box", .glo "_law_take", .glo "_law_cells", .glo "_law_of", .glo "_law_pick", .glo "_law_lists", .glo "_law_same", .glo "_law_unwanted"]
def faL2 : List He.Fa := [.glo "_law_seat", .glo "_law_run", .glo "_law_lacking", .glo "_law_others", .glo "_law_parts", .glo "_law_in_part", .glo "_law_part_kind", .glo "_law_free_in", .glo "_law_bars", .glo "_law_walk", .glo "_law_are_within", .glo "_law_is_walk", .glo "_law_just", .glo "_law_all_of", .glo "_law_barred_by", .glo "_law_one_of", .glo "_law_great_net", .glo "_law_is_heap", .glo "_law_heard", .glo "_law_by_hand_right", .glo "_law_papers_right", .glo "_law_right", .glo "_law_never_right", .glo "law", .free "ValueError", .free "abs", .free "all", .free "any", .free "bool", .free "dict"]
def faL3 : List He.Fa := [.free "enumerate", .free "int", .free "isinstance", .free "len", .free "list", .free "min", .free "range", .free "set", .free "sorted", .free "str", .free "tuple", .free "zip", .glo "CanNot", .exc "CanNot", .exm "CanNot" "CanNot" true]
def fa : List He.Fa := faL0 ++ faL1 ++ faL2 ++ faL3
def looseL0 : List Str := ["NoGuest", "CanNot", "Unfit", "is_number", "is_from", "is_within", "is_long", "tupled", "ascends", "set_of", "is_guest_of", "is_web", "sure_web", "sure_guest", "unwanted_in", "is_lot_in", "sure_lot", "others_in", "beside_by", "part_from", "parts_in", "guests_in", "way_from", "round_of", "both_sure", "met_by", "spare_in", "is_tree_in", "is_bad", "bad_in"]
def looseL1 : List Str := ["can_be_without", "next_to", "grown_from", "seated_round", "kept_in", "order_by", "trees_of", "order_in_lot", "sure_free", "order_for", "why_not", "spare_places", "how_many_free", "sure_places", "order_leaving", "barring_in", "can_together", "is_never", "never_without", "rivals", "lot_grown", "lot_sure", "lot_with", "order_with", "why_never", "_law_box", "_law_take", "_law_cells", "_law_of", "_law_pick"]
def looseL2 : List Str := ["_law_lists", "_law_same", "_law_unwanted", "_law_seat", "_law_run", "_law_lacking", "_law_others", "_law_parts", "_law_in_part", "_law_part_kind", "_law_free_in", "_law_bars", "_law_walk", "_law_are_within", "_law_is_walk", "_law_just", "_law_all_of", "_law_barred_by", "_law_one_of", "_law_great_net", "_law_is_heap", "_law_heard", "_law_by_hand_right", "_law_papers_right", "_law_right", "_law_never_right"]
def loose : List Str := looseL0 ++ looseL1 ++ looseL2
abbrev R : PySem.W.OpenRow := PySem.W.OpenLaw.row PySem.Challenge.rw_leftwithout_k17_whole_great_webs_by_pape
def ex (K : PySem.W.Frag) : Bool :=
  He.eqO (PySem.W.findIn K (.ref (He.ga K "CanNot")) "__getattribute__") (some (some (.builtin "BaseException.__getattribute__"))) && (He.eqO (PySem.W.findIn K (.ref (He.ga K "CanNot")) "__getattr__") (some none) && (PySem.W.hasDictIn K (He.ga K "CanNot") && (He.eqO (PySem.W.findIn K (.ref (He.ga K "CanNot")) "__class__") (some (some (.builtin "object.__class__")))
    && (He.eqO (PySem.W.specialIn K (.builtin "object.__class__") "__get__") (some (some (.builtin "getset_descriptor.__get__"))) && (decide (PySem.W.takesIn K (.builtin "object.__class__") = some true) && (decide (PySem.W.mroIn K (He.ga K "CanNot") (.type "object") = some true) && decide (PySem.W.kitOne K (.ref (He.ga K "CanNot")) (.type "ValueError") = some true)))))))
abbrev hk : PySem.W.Hook := He.hookX 2 fa fn [] [] ex
def ob (s : PySem.W.SharedT) : He.AlX := He.obsX 2 fa fn [] [] ex (HandSHeadRun.getT s)
theorem ob_eq (s : PySem.W.SharedT) : ob s = hk.obs s.abs := He.obsX_eq (HandSHeadRun.getT_eq s)
theorem run (w : World) : HandSHeadRun.RunEq R (PySem.W.view R.prog [93]) hk ob 6000 loose w := by
  intro os
  kernel_rfl
end K17
end

section
set_option maxRecDepth 100000
set_option maxHeartbeats 4000000
/-! Lists of numbers in order. -/
namespace MN
/-- the list in order -/
def ins (a : Nat) : List Nat → List Nat
  | [] => [a]
  | b :: l => if a ≤ b then a :: b :: l else b :: ins a l
def srt : List Nat → List Nat
  | [] => []
  | a :: l => ins a (srt l)
theorem ins_perm (a : Nat) : ∀ l : List Nat, (ins a l).Perm (a :: l)
  | [] => .refl _
  | b :: l => by
    unfold ins
    split
    · exact .refl _
    · exact ((ins_perm a l).cons b).trans (.swap a b l)
theorem srt_perm : ∀ l : List Nat, (srt l).Perm l
  | [] => .refl _
  | a :: l => (ins_perm a (srt l)).trans ((srt_perm l).cons a)
theorem ins_sorted (a : Nat) : ∀ l : List Nat, l.Pairwise (· ≤ ·) → (ins a l).Pairwise (· ≤ ·)
  | [], _ => by simp [ins]
  | b :: l, h => by
    rw [List.pairwise_cons] at h
    unfold ins
    split
    · rename_i hab
      refine List.pairwise_cons.mpr ⟨fun c hc => ?_, List.pairwise_cons.mpr h⟩
      rcases List.mem_cons.mp hc with e | hc
      · omega
      · have := h.1 c hc; omega
    · rename_i hab
      refine List.pairwise_cons.mpr ⟨fun c hc => ?_, ins_sorted a l h.2⟩
      rcases List.mem_cons.mp ((ins_perm a l).mem_iff.mp hc) with e | hc
      · omega
      · exact h.1 c hc
theorem srt_sorted : ∀ l : List Nat, (srt l).Pairwise (· ≤ ·)
  | [] => .nil
  | a :: l => ins_sorted a _ (srt_sorted l)
end MN
end

section
set_option maxRecDepth 100000
set_option maxHeartbeats 4000000
/-! A layer of data over the hand layer: values without addresses (D), what represents them, states of a def by data. -/
namespace DL
open PySem PySem.Spec PyProof.Rows L2

/-- data -/
inductive D where
  | non | bl (b : Bool) | int (i : Int) | str (x : Str) | lst (ds : List D) | tup (ds : List D) | dic (ks : List Int) (ds : List D) | ob (a : Addr) | ty (n : String) | scr (K : PySem.W.Frag) (ns : List Int)

/-- the pairs of a dict with int keys -/
def kvsOf (ks : List Int) (xs : List V) : List (Key × V) := (ks.map Sum.inl).zip xs

mutual
/-- the value stands for the data, in a heap -/
inductive Rep (G : Hp) : V → D → Prop
  | non : Rep G .non .non
  | bl (b : Bool) : Rep G (.bl b) (.bl b)
  | int (i : Int) : Rep G (.int i) (.int i)
  | str (x : Str) : Rep G (.str x) (.str x)
  | lst {a : Addr} {xs : List V} {ds : List D} : G a = some (.lst xs) → Reps G xs ds → Rep G (.ref a) (.lst ds)
  | tup {a : Addr} {xs : List V} {ds : List D} : G a = some (.tup xs) → Reps G xs ds → Rep G (.ref a) (.tup ds)
  | dic {a : Addr} {ks : List Int} {xs : List V} {ds : List D} : G a = some (.dK (kvsOf ks xs)) → ks.length = ds.length → Reps G xs ds → Rep G (.ref a) (.dic ks ds)
  | ob (a : Addr) : Rep G (.ref a) (.ob a)
  | ty (n : String) : Rep G (.ty n) (.ty n)
  | scr {a : Addr} {K : PySem.W.Frag} {ns : List Int} : SqL K G a (ns.map V.int) → Rep G (.ref a) (.scr K ns)
inductive Reps (G : Hp) : List V → List D → Prop
  | nil : Reps G [] []
  | cons {v : V} {vs : List V} {d : D} {ds : List D} : Rep G v d → Reps G vs ds → Reps G (v :: vs) (d :: ds)
end

mutual
theorem Rep.mono {G G' : Hp} (e : Same G G') : ∀ (d : D) (v : V), Rep G v d → Rep G' v d
  | .non, _, h => by cases h; exact .non
  | .bl _, _, h => by cases h; exact .bl _
  | .int _, _, h => by cases h; exact .int _
  | .str _, _, h => by cases h; exact .str _
  | .lst ds, _, h => by
    cases h with
    | lst h1 h2 => exact .lst (e _ _ h1) (Reps.mono e ds _ h2)
  | .tup ds, _, h => by
    cases h with
    | tup h1 h2 => exact .tup (e _ _ h1) (Reps.mono e ds _ h2)
  | .dic ks ds, _, h => by
    cases h with
    | dic h1 h2 h3 => exact .dic (e _ _ h1) h2 (Reps.mono e ds _ h3)
  | .ob _, _, h => by cases h; exact .ob _
  | .ty _, _, h => by cases h; exact .ty _
  | .scr _ _, _, h => by
    cases h with
    | scr h1 => exact .scr (by
      rcases h1 with (h1 | ⟨o, h1⟩) | h1
      · exact .inl (.inl (e _ _ h1))
      · exact .inl (.inr ⟨o, e _ _ h1⟩)
      · exact .inr h1)
theorem Reps.mono {G G' : Hp} (e : Same G G') : ∀ (ds : List D) (vs : List V), Reps G vs ds → Reps G' vs ds
  | [], _, h => by cases h; exact .nil
  | d :: ds, _, h => by
    cases h with
    | cons h1 h2 => exact .cons (Rep.mono e d _ h1) (Reps.mono e ds _ h2)
end
theorem Rep.up {G G' : Hp} {v : V} {d : D} (h : Rep G v d) (e : Same G G') : Rep G' v d := Rep.mono e d v h
theorem Reps.up {G G' : Hp} {vs : List V} {ds : List D} (h : Reps G vs ds) (e : Same G G') : Reps G' vs ds := Reps.mono e ds vs h
theorem Reps.length {G : Hp} : ∀ {vs : List V} {ds : List D}, Reps G vs ds → vs.length = ds.length
  | _, _, .nil => rfl
  | _, _, .cons _ t => congrArg Nat.succ (Reps.length t)
theorem Reps.append {G : Hp} : ∀ {vs us : List V} {ds es : List D}, Reps G vs ds → Reps G us es → Reps G (vs ++ us) (ds ++ es)
  | _, _, _, _, .nil, s => s
  | _, _, _, _, .cons r t, s => .cons r (Reps.append t s)
theorem Reps.get {G : Hp} : ∀ {vs : List V} {ds : List D} {i : Nat} {d : D}, Reps G vs ds → ds[i]? = some d → ∃ v, vs[i]? = some v ∧ Rep G v d
  | _, _, _, _, .nil, e => by simp at e
  | _, _, 0, _, .cons r _, e => by simp at e; subst e; exact ⟨_, rfl, r⟩
  | _, _, i + 1, d, .cons _ t, e => by
    obtain ⟨v, h1, h2⟩ := Reps.get (i := i) (d := d) t (by simpa using e)
    exact ⟨v, by simpa using h1, h2⟩
theorem Reps.get' {G : Hp} : ∀ {vs : List V} {ds : List D} {i : Nat} {v : V}, Reps G vs ds → vs[i]? = some v → ∃ d, ds[i]? = some d ∧ Rep G v d
  | _, _, _, _, .nil, e => by simp at e
  | _, _, 0, _, .cons r _, e => by simp at e; subst e; exact ⟨_, rfl, r⟩
  | _, _, i + 1, v, .cons _ t, e => by
    obtain ⟨d, h1, h2⟩ := Reps.get' (i := i) (v := v) t (by simpa using e)
    exact ⟨d, by simpa using h1, h2⟩
theorem Reps.set {G : Hp} : ∀ {vs : List V} {ds : List D} {i : Nat} {v : V} {d : D}, Reps G vs ds → Rep G v d → Reps G (vs.set i v) (ds.set i d)
  | _, _, _, _, _, .nil, _ => .nil
  | _, _, 0, _, _, .cons _ t, q => .cons q t
  | _, _, _ + 1, _, _, .cons r t, q => .cons r (Reps.set t q)
theorem Reps.take {G : Hp} : ∀ {vs : List V} {ds : List D} (n : Nat), Reps G vs ds → Reps G (vs.take n) (ds.take n)
  | _, _, 0, _ => by rw [List.take_zero, List.take_zero]; exact .nil
  | _, _, _ + 1, .nil => .nil
  | _, _, n + 1, .cons r t => .cons r (Reps.take n t)
theorem Reps.drop {G : Hp} : ∀ {vs : List V} {ds : List D} (n : Nat), Reps G vs ds → Reps G (vs.drop n) (ds.drop n)
  | _, _, 0, r => r
  | _, _, _ + 1, .nil => .nil
  | _, _, n + 1, .cons _ t => Reps.drop n t
theorem Reps.eraseIdx {G : Hp} : ∀ {vs : List V} {ds : List D} (i : Nat), Reps G vs ds → Reps G (vs.eraseIdx i) (ds.eraseIdx i)
  | _, _, _, .nil => .nil
  | _, _, 0, .cons _ t => t
  | _, _, i + 1, .cons r t => .cons r (Reps.eraseIdx i t)
theorem Reps.reverse {G : Hp} : ∀ {vs : List V} {ds : List D}, Reps G vs ds → Reps G vs.reverse ds.reverse
  | _, _, .nil => .nil
  | _, _, .cons r t => by
    rw [List.reverse_cons, List.reverse_cons]
    exact (Reps.reverse t).append (.cons r .nil)
theorem Reps.dropLast {G : Hp} {vs : List V} {ds : List D} (r : Reps G vs ds) : Reps G vs.dropLast ds.dropLast := by
  rw [List.dropLast_eq_take, List.dropLast_eq_take, r.length]
  exact r.take _
theorem Reps.rep {G : Hp} {vs : List V} {ds : List D} (r : Reps G vs ds) : ∀ n : Nat, Reps G (List.replicate n vs).flatten (List.replicate n ds).flatten
  | 0 => .nil
  | n + 1 => by
    rw [List.replicate_succ, List.replicate_succ, List.flatten_cons, List.flatten_cons]
    exact r.append (Reps.rep r n)

/-! ### the immutable part G of the heap H; how both grow -/
/-- from an entry (G0, H0) -/
structure Gr (G0 H0 G H : Hp) : Prop where
  g : Same G0 G
  h : Same H0 H
  gh : Same G H
  n : ∀ a, G0 a = none → H0 a ≠ none → G a = none

theorem same_upd {H : Hp} {p : Addr} {o : HO} (h : H p = none) : Same H (upd H p o) := fun b x e => by
  rw [upd_ne (ne_of_none e h)]
  exact e
theorem Gr.refl {G H : Hp} (e : Same G H) : Gr G H G H := ⟨Same.refl G, Same.refl H, e, fun _ h _ => h⟩
theorem Gr.trans {G0 H0 G1 H1 G2 H2 : Hp} (a : Gr G0 H0 G1 H1) (b : Gr G1 H1 G2 H2) : Gr G0 H0 G2 H2 :=
  ⟨a.g.trans b.g, a.h.trans b.h, b.gh, fun x h1 h2 => b.n x (a.n x h1 h2) (by
    cases e : H0 x with
    | none => exact absurd e h2
    | some o => rw [a.h x o e]; exact fun z => nomatch z)⟩
/-- a new object among the immutable ones -/
theorem Gr.new {G0 H0 G H : Hp} {p : Addr} {o : HO} (a : Gr G0 H0 G H) (hp : H p = none) : Gr G0 H0 (upd G p o) (upd H p o) := by
  have gp : G p = none := a.gh.free hp
  refine ⟨a.g.trans (same_upd gp), a.h.trans (same_upd hp), fun b x e => ?_, fun b h1 h2 => ?_⟩
  · by_cases hb : b = p
    · subst hb; rw [upd_same] at e ⊢; exact e
    · rw [upd_ne hb] at e ⊢; exact a.gh b x e
  · by_cases hb : b = p
    · subst hb; exact absurd (a.h.free hp) h2
    · rw [upd_ne hb]; exact a.n b h1 h2
/-- a new object, mutable -/
theorem Gr.mut {G0 H0 G H : Hp} {p : Addr} {o : HO} (a : Gr G0 H0 G H) (gp : G p = none) (hp : H0 p = none) : Gr G0 H0 G (upd H p o) := by
  refine ⟨a.g, fun b x e => ?_, fun b x e => ?_, a.n⟩
  · rw [upd_ne (ne_of_none e hp)]; exact a.h b x e
  · rw [upd_ne (ne_of_none e gp)]; exact a.gh b x e
/-- a mutable object comes to be immutable -/
theorem Gr.freeze {G0 H0 G H : Hp} {p : Addr} {o : HO} (a : Gr G0 H0 G H) (gp : G p = none) (hp : H0 p = none) (ho : H p = some o) : Gr G0 H0 (upd G p o) H := by
  refine ⟨a.g.trans (same_upd gp), a.h, fun b x e => ?_, fun b h1 h2 => ?_⟩
  · by_cases hb : b = p
    · subst hb; rw [upd_same] at e; rw [ho]; exact e
    · rw [upd_ne hb] at e; exact a.gh b x e
  · by_cases hb : b = p
    · subst hb; exact absurd hp h2
    · rw [upd_ne hb]; exact a.n b h1 h2

/-! ### slots -/
/-- a slot by data: not known; an immutable value; a mutable list or dict that nothing else holds; the mutable one at a fixed address -/
inductive Sl where
  | un | va (d : D) | ow (d : D) | ti (d : D)
abbrev En := List Sl

/-- the content of a mutable object -/
def Cont (G H : Hp) (a : Addr) : D → Prop
  | .lst ds => ∃ xs, H a = some (.lst xs) ∧ Reps G xs ds
  | .dic ks ds => ∃ xs, H a = some (.dK (kvsOf ks xs)) ∧ ks.length = ds.length ∧ Reps G xs ds
  | _ => False
theorem Cont.up {G G' H H' : Hp} {a : Addr} {d : D} (c : Cont G H a d) (e : Same G G') (h : ∀ o, H a = some o → H' a = some o) : Cont G' H' a d := by
  cases d with
  | lst ds => obtain ⟨xs, h1, h2⟩ := c; exact ⟨xs, h _ h1, h2.up e⟩
  | dic ks ds => obtain ⟨xs, h1, h2, h3⟩ := c; exact ⟨xs, h _ h1, h2, h3.up e⟩
  | _ => exact c.elim
theorem Cont.some {G H : Hp} {a : Addr} {d : D} (c : Cont G H a d) : ∃ o, H a = some o := by
  cases d with
  | lst ds => obtain ⟨xs, h1, _⟩ := c; exact ⟨_, h1⟩
  | dic ks ds => obtain ⟨xs, h1, _⟩ := c; exact ⟨_, h1⟩
  | _ => exact c.elim
/-- frozen, it stands for its data -/
theorem Cont.rep {G H : Hp} {a : Addr} {d : D} {o : HO} (c : Cont G H a d) (g : G a = none) (ho : H a = Option.some o) : Rep (upd G a o) (.ref a) d := by
  cases d with
  | lst ds =>
    obtain ⟨xs, h1, h2⟩ := c
    rw [ho] at h1; cases h1
    exact .lst upd_same (h2.up (same_upd g))
  | dic ks ds =>
    obtain ⟨xs, h1, h2, h3⟩ := c
    rw [ho] at h1; cases h1
    exact .dic upd_same h2 (h3.up (same_upd g))
  | _ => exact c.elim

/-- one slot is as told; t: the fixed address -/
def SlOk (t : Addr) (H0 G H : Hp) : Sl → Option V → Prop
  | .un, _ => True
  | .va d, v => ∃ u, v = some u ∧ Rep G u d
  | .ow d, v => ∃ a, v = some (.ref a) ∧ G a = none ∧ H0 a = none ∧ Cont G H a d
  | .ti d, v => v = some (.ref t) ∧ G t = none ∧ H0 t = none ∧ Cont G H t d
/-- the address of a mutable one -/
def ownA (t : Addr) : Sl → Option V → Option Addr
  | .ow _, some (.ref a) => some a
  | .ti _, _ => some t
  | _, _ => none
/-- the state: entry (G0, H0), now (G, H), the slots ρ held by σ -/
structure Mt (t : Addr) (G0 H0 : Hp) (ρ : En) (G H : Hp) (σ : L2.St) : Prop where
  gr : Gr G0 H0 G H
  len : σ.length = ρ.length
  ok : ∀ (i : Nat) (r : Sl) (v : Option V), ρ[i]? = some r → σ[i]? = some v → SlOk t H0 G H r v
  nd : ∀ (i j : Nat) (r s : Sl) (v u : Option V) (a : Addr), i ≠ j → ρ[i]? = some r → σ[i]? = some v → ρ[j]? = some s → σ[j]? = some u → ownA t r v = some a → ownA t s u = some a → False

section
variable {t : Addr} {G0 H0 G H G' H' : Hp} {ρ ρ' : En} {σ σ' : L2.St}
theorem SlOk.ow_at {d : D} {v : Option V} {a : Addr} {r : Sl} (h : SlOk t H0 G H r v) (e : ownA t r v = some a) : G a = none ∧ H0 a = none ∧ ∃ o, H a = some o := by
  cases r with
  | ow d =>
    obtain ⟨b, rfl, h1, h2, h3⟩ := h
    cases e
    exact ⟨h1, h2, h3.some⟩
  | ti d =>
    obtain ⟨rfl, h1, h2, h3⟩ := h
    cases e
    exact ⟨h1, h2, h3.some⟩
  | _ => cases e
theorem Mt.slot (m : Mt t G0 H0 ρ G H σ) {i : Nat} {r : Sl} (h : ρ[i]? = some r) : ∃ v, σ[i]? = some v ∧ SlOk t H0 G H r v := by
  have hi : i < σ.length := by rw [m.len]; exact (List.getElem?_eq_some_iff.mp h).1
  exact ⟨σ[i], List.getElem?_eq_getElem hi, m.ok i r _ h (List.getElem?_eq_getElem hi)⟩
theorem Mt.va (m : Mt t G0 H0 ρ G H σ) {i : Nat} {d : D} (h : ρ[i]? = some (.va d)) : ∃ u, σ[i]? = some (some u) ∧ Rep G u d := by
  obtain ⟨v, h1, u, rfl, h2⟩ := m.slot h
  exact ⟨u, h1, h2⟩
theorem Mt.ow (m : Mt t G0 H0 ρ G H σ) {i : Nat} {d : D} (h : ρ[i]? = some (.ow d)) : ∃ a, σ[i]? = some (some (.ref a)) ∧ G a = none ∧ H0 a = none ∧ Cont G H a d := by
  obtain ⟨v, h1, a, rfl, h2⟩ := m.slot h
  exact ⟨a, h1, h2⟩
theorem Mt.ti (m : Mt t G0 H0 ρ G H σ) {i : Nat} {d : D} (h : ρ[i]? = some (.ti d)) : σ[i]? = some (some (.ref t)) ∧ G t = none ∧ H0 t = none ∧ Cont G H t d := by
  obtain ⟨v, h1, rfl, h2⟩ := m.slot h
  exact ⟨h1, h2⟩
/-- some of the slots, in another order -/
theorem Mt.sub (m : Mt t G0 H0 ρ G H σ) (f : Nat → Nat) (inj : ∀ a b, a < ρ'.length → b < ρ'.length → f a = f b → a = b) (hl : σ'.length = ρ'.length)
    (h : ∀ (k : Nat) (r : Sl) (v : Option V), ρ'[k]? = some r → σ'[k]? = some v → r = .un ∨ (ρ[f k]? = some r ∧ σ[f k]? = some v)) : Mt t G0 H0 ρ' G H σ' := by
  refine ⟨m.gr, hl, fun i r v h1 h2 => ?_, fun i j r s v u a hij h1 h2 h3 h4 e1 e2 => ?_⟩
  · rcases h i r v h1 h2 with rfl | ⟨q1, q2⟩
    · exact True.intro
    · exact m.ok _ r v q1 q2
  · rcases h i r v h1 h2 with rfl | ⟨q1, q2⟩
    · cases e1
    · rcases h j s u h3 h4 with rfl | ⟨q3, q4⟩
      · cases e2
      · exact m.nd _ _ r s v u a (fun e => hij (inj _ _ (List.getElem?_eq_some_iff.mp h1).1 (List.getElem?_eq_some_iff.mp h3).1 e)) q1 q2 q3 q4 e1 e2
/-- the heap grows, the slots stay -/
theorem Mt.heap (m : Mt t G0 H0 ρ G H σ) (gr : Gr G0 H0 G' H') (hg : Same G G') (hh : Same H H') (hn : ∀ a, G a = none → H a ≠ none → H0 a = none → G' a = none) : Mt t G0 H0 ρ G' H' σ := by
  refine ⟨gr, m.len, fun i r v h1 h2 => ?_, m.nd⟩
  have q := m.ok i r v h1 h2
  have nz : ∀ {a : Addr} {d : D}, Cont G H a d → H a ≠ none := fun {a d} c => by
    obtain ⟨o, e⟩ := c.some
    rw [e]; exact fun z => nomatch z
  cases r with
  | un => exact True.intro
  | va d => obtain ⟨u, e, w⟩ := q; exact ⟨u, e, w.up hg⟩
  | ow d => obtain ⟨a, e, w1, w2, w3⟩ := q; exact ⟨a, e, hn a w1 (nz w3) w2, w2, w3.up hg (hh a)⟩
  | ti d => obtain ⟨e, w1, w2, w3⟩ := q; exact ⟨e, hn t w1 (nz w3) w2, w2, w3.up hg (hh t)⟩
/-- a new object among the immutable ones -/
theorem Mt.new (m : Mt t G0 H0 ρ G H σ) {p : Addr} {o : HO} (hp : H p = none) : Mt t G0 H0 ρ (upd G p o) (upd H p o) σ :=
  m.heap (m.gr.new hp) (same_upd (m.gr.gh.free hp)) (same_upd hp) fun a h1 h2 _ => by
    rw [upd_ne (fun e => h2 (by rw [e]; exact hp))]; exact h1
/-- a value more -/
theorem Mt.push (m : Mt t G0 H0 ρ G H σ) {v0 : V} {d : D} (r : Rep G v0 d) : Mt t G0 H0 (ρ ++ [.va d]) G H (σ ++ [some v0]) := by
  refine ⟨m.gr, by simp [m.len], fun i r' v' h1 h2 => ?_, fun i j r s v u a hij h1 h2 h3 h4 e1 e2 => ?_⟩
  · by_cases hi : i < ρ.length
    · rw [List.getElem?_append_left hi] at h1
      rw [List.getElem?_append_left (by rw [m.len]; exact hi)] at h2
      exact m.ok i r' v' h1 h2
    · have e : i = ρ.length := by
        have := (List.getElem?_eq_some_iff.mp h1).1
        simp at this; omega
      subst e
      rw [List.getElem?_append_right (Nat.le_refl _), Nat.sub_self] at h1
      rw [← m.len, List.getElem?_append_right (Nat.le_refl _), Nat.sub_self] at h2
      cases h1; cases h2
      exact ⟨v0, rfl, r⟩
  · have key : ∀ {k : Nat} {r' : Sl} {v' : Option V}, (ρ ++ [Sl.va d])[k]? = some r' → (σ ++ [some v0])[k]? = some v' → ownA t r' v' = some a → ρ[k]? = some r' ∧ σ[k]? = some v' := fun {k r' v'} h1 h2 e => by
      by_cases hi : k < ρ.length
      · rw [List.getElem?_append_left hi] at h1
        rw [List.getElem?_append_left (by rw [m.len]; exact hi)] at h2
        exact ⟨h1, h2⟩
      · have ek : k = ρ.length := by
          have := (List.getElem?_eq_some_iff.mp h1).1
          simp at this; omega
        subst ek
        rw [List.getElem?_append_right (Nat.le_refl _), Nat.sub_self] at h1
        cases h1; cases e
    obtain ⟨q1, q2⟩ := key h1 h2 e1
    obtain ⟨q3, q4⟩ := key h3 h4 e2
    exact m.nd i j r s v u a hij q1 q2 q3 q4 e1 e2
theorem get_last {α : Type} {l : List α} {x y : α} {k : Nat} (hk : ¬ k < l.length) (h : (l ++ [x])[k]? = some y) : k = l.length ∧ x = y := by
  have hl := (List.getElem?_eq_some_iff.mp h).1
  have e : k = l.length := by simp at hl; omega
  subst e
  rw [List.getElem?_append_right (Nat.le_refl _), Nat.sub_self] at h
  exact ⟨rfl, Option.some.inj h⟩
/-- a new mutable object -/
theorem Mt.pushOw (m : Mt t G0 H0 ρ G H σ) {p : Addr} {o : HO} {d : D} (hp : H p = none) (c : Cont G (upd H p o) p d) : Mt t G0 H0 (ρ ++ [.ow d]) G (upd H p o) (σ ++ [some (.ref p)]) := by
  have gp : G p = none := m.gr.gh.free hp
  have h0 : H0 p = none := m.gr.h.free hp
  have m1 : Mt t G0 H0 ρ G (upd H p o) σ := m.heap (m.gr.mut gp h0) (Same.refl G) (same_upd hp) fun _ h _ _ => h
  refine ⟨m1.gr, by simp [m.len], fun i r' v' h1 h2 => ?_, fun i j r s v u a hij h1 h2 h3 h4 e1 e2 => ?_⟩
  · by_cases hi : i < ρ.length
    · rw [List.getElem?_append_left hi] at h1
      rw [List.getElem?_append_left (by rw [m.len]; exact hi)] at h2
      exact m1.ok i r' v' h1 h2
    · obtain ⟨rfl, rfl⟩ := get_last hi h1
      obtain ⟨_, rfl⟩ := get_last (by rw [m.len]; exact hi) h2
      exact ⟨p, rfl, gp, h0, c⟩
  · have old : ∀ {k : Nat} {r : Sl} {v : Option V}, k < ρ.length → (ρ ++ [Sl.ow d])[k]? = some r → (σ ++ [some (V.ref p)])[k]? = some v → ρ[k]? = some r ∧ σ[k]? = some v := fun {k r' v'} hi h1 h2 => by
      rw [List.getElem?_append_left hi] at h1
      rw [List.getElem?_append_left (by rw [m.len]; exact hi)] at h2
      exact ⟨h1, h2⟩
    have new : ∀ {k : Nat} {r : Sl} {v : Option V}, ¬ k < ρ.length → (ρ ++ [Sl.ow d])[k]? = some r → (σ ++ [some (V.ref p)])[k]? = some v → ownA t r v = some a → a = p := fun {k r' v'} hi h1 h2 e => by
      obtain ⟨rfl, rfl⟩ := get_last hi h1
      obtain ⟨_, rfl⟩ := get_last (by rw [m.len]; exact hi) h2
      cases e; rfl
    have far : ∀ {k : Nat} {r : Sl} {v : Option V}, ρ[k]? = some r → σ[k]? = some v → ownA t r v = some a → a ≠ p := fun {k r' v'} h1 h2 e z => by
      obtain ⟨_, _, o', ho⟩ := (m.ok k r' v' h1 h2).ow_at (d := d) e
      rw [z, hp] at ho; cases ho
    by_cases hi : i < ρ.length
    · obtain ⟨q1, q2⟩ := old hi h1 h2
      by_cases hj : j < ρ.length
      · obtain ⟨q3, q4⟩ := old hj h3 h4
        exact m.nd i j r s v u a hij q1 q2 q3 q4 e1 e2
      · exact far q1 q2 e1 (new hj h3 h4 e2)
    · by_cases hj : j < ρ.length
      · obtain ⟨q3, q4⟩ := old hj h3 h4
        exact far q3 q4 e2 (new hi h1 h2 e1)
      · have := (List.getElem?_eq_some_iff.mp h1).1
        have := (List.getElem?_eq_some_iff.mp h3).1
        simp at *; omega
/-- a mutable one is written -/
theorem Mt.write (m : Mt t G0 H0 ρ G H σ) {i : Nat} {r r' : Sl} {v : Option V} {a : Addr} {o : HO} (hr : ρ[i]? = some r) (hv : σ[i]? = some v) (ha : ownA t r v = some a) (ha' : ownA t r' v = some a)
    (hs : SlOk t H0 G (upd H a o) r' v) : Mt t G0 H0 (ρ.set i r') G (upd H a o) σ := by
  obtain ⟨gp, h0, _⟩ := (m.ok i r v hr hv).ow_at (d := .non) ha
  have hi : i < ρ.length := (List.getElem?_eq_some_iff.mp hr).1
  refine ⟨m.gr.mut gp h0, by simp [m.len], fun k s u h1 h2 => ?_, fun k l s s' u u' b hkl h1 h2 h3 h4 e1 e2 => ?_⟩
  · by_cases hk : k = i
    · subst hk
      rw [List.getElem?_set_self hi] at h1
      cases h1
      rw [hv] at h2; cases h2
      exact hs
    · rw [List.getElem?_set_ne (Ne.symm hk)] at h1
      have q := m.ok k s u h1 h2
      have far : ∀ b, ownA t s u = some b → b ≠ a := fun b e z => m.nd k i s r u v a hk h1 h2 hr hv (z ▸ e) ha
      cases s with
      | un => exact True.intro
      | va d => exact q
      | ow d =>
        obtain ⟨b, rfl, w1, w2, w3⟩ := q
        exact ⟨b, rfl, w1, w2, w3.up (Same.refl G) fun o e => by rw [upd_ne (far b rfl)]; exact e⟩
      | ti d =>
        obtain ⟨rfl, w1, w2, w3⟩ := q
        exact ⟨rfl, w1, w2, w3.up (Same.refl G) fun o e => by rw [upd_ne (far t rfl)]; exact e⟩
  · have key : ∀ {k : Nat} {s : Sl} {u : Option V}, (ρ.set i r')[k]? = some s → σ[k]? = some u → ownA t s u = some b → ∃ s', ρ[k]? = some s' ∧ ownA t s' u = some b := fun {k s u} h1 h2 e => by
      by_cases hk : k = i
      · subst hk
        rw [List.getElem?_set_self hi] at h1
        cases h1
        rw [hv] at h2; cases h2
        rw [ha'] at e; cases e
        exact ⟨r, hr, ha⟩
      · rw [List.getElem?_set_ne (Ne.symm hk)] at h1
        exact ⟨s, h1, e⟩
    obtain ⟨z1, q1, q2⟩ := key h1 h2 e1
    obtain ⟨z2, q3, q4⟩ := key h3 h4 e2
    exact m.nd k l z1 z2 u u' b hkl q1 h2 q3 h4 q2 q4
theorem Mt.writeOw (m : Mt t G0 H0 ρ G H σ) {i : Nat} {d d' : D} {a : Addr} {o : HO} (hr : ρ[i]? = some (.ow d)) (hv : σ[i]? = some (some (.ref a))) (c : Cont G (upd H a o) a d') : Mt t G0 H0 (ρ.set i (.ow d')) G (upd H a o) σ := by
  obtain ⟨b, e, g, h0, _⟩ := m.ow hr
  rw [hv] at e; cases e
  exact m.write hr hv rfl rfl ⟨a, rfl, g, h0, c⟩
theorem Mt.writeTi (m : Mt t G0 H0 ρ G H σ) {i : Nat} {d d' : D} {o : HO} (hr : ρ[i]? = some (.ti d)) (c : Cont G (upd H t o) t d') : Mt t G0 H0 (ρ.set i (.ti d')) G (upd H t o) σ := by
  obtain ⟨e, g, h0, _⟩ := m.ti hr
  exact m.write hr e rfl rfl ⟨rfl, g, h0, c⟩
/-- a mutable one is frozen -/
theorem Mt.freeze (m : Mt t G0 H0 ρ G H σ) {i : Nat} {d : D} (hr : ρ[i]? = some (.ow d)) : ∃ a o, σ[i]? = some (some (.ref a)) ∧ G a = none ∧ H0 a = none ∧ H a = some o ∧ Cont G H a d ∧ Same G (upd G a o) ∧ Mt t G0 H0 (ρ.set i (.va d)) (upd G a o) H σ := by
  obtain ⟨a, hv, ga, h0, c⟩ := m.ow hr
  obtain ⟨o, ho⟩ := c.some
  have hi : i < ρ.length := (List.getElem?_eq_some_iff.mp hr).1
  have sg : Same G (upd G a o) := same_upd ga
  refine ⟨a, o, hv, ga, h0, ho, c, sg, m.gr.freeze ga h0 ho, by simp [m.len], fun k s u h1 h2 => ?_, fun k l s s' u u' b hkl h1 h2 h3 h4 e1 e2 => ?_⟩
  · by_cases hk : k = i
    · subst hk
      rw [List.getElem?_set_self hi] at h1
      cases h1
      rw [hv] at h2; cases h2
      exact ⟨_, rfl, c.rep ga ho⟩
    · rw [List.getElem?_set_ne (Ne.symm hk)] at h1
      have q := m.ok k s u h1 h2
      have far : ∀ b, ownA t s u = some b → b ≠ a := fun b e z => m.nd k i s _ u _ a hk h1 h2 hr hv (z ▸ e) rfl
      cases s with
      | un => exact True.intro
      | va d => obtain ⟨u, e, w⟩ := q; exact ⟨u, e, w.up sg⟩
      | ow d =>
        obtain ⟨b, rfl, w1, w2, w3⟩ := q
        exact ⟨b, rfl, by rw [upd_ne (far b rfl)]; exact w1, w2, w3.up sg fun _ e => e⟩
      | ti d =>
        obtain ⟨rfl, w1, w2, w3⟩ := q
        exact ⟨rfl, by rw [upd_ne (far t rfl)]; exact w1, w2, w3.up sg fun _ e => e⟩
  · have key : ∀ {k : Nat} {s : Sl} {u : Option V}, (ρ.set i (.va d))[k]? = some s → ownA t s u = some b → ρ[k]? = some s := fun {k s u} h1 e => by
      by_cases hk : k = i
      · subst hk
        rw [List.getElem?_set_self hi] at h1
        cases h1; cases e
      · rw [List.getElem?_set_ne (Ne.symm hk)] at h1
        exact h1
    exact m.nd k l s s' u u' b hkl (key h1 e1) h2 (key h3 e2) h4 e1 e2
end

/-! ### pending slots behind the def's own -/
section
variable {t : Addr} {G0 H0 G H : Hp} {ρ κ : En} {σ τ : L2.St} {r : Sl} {v : Option V}
/-- drop the last -/
theorem Mt.pop (m : Mt t G0 H0 (ρ ++ [r]) G H (σ ++ [v])) : Mt t G0 H0 ρ G H σ := by
  have hl : σ.length = ρ.length := by have := m.len; simpa using this
  refine m.sub id (fun _ _ _ _ e => e) hl fun k r' v' h1 h2 => .inr ⟨?_, ?_⟩
  · rw [id, List.getElem?_append_left (List.getElem?_eq_some_iff.mp h1).1]; exact h1
  · rw [id, List.getElem?_append_left (List.getElem?_eq_some_iff.mp h2).1]; exact h2
theorem Mt.last (m : Mt t G0 H0 (ρ ++ [r]) G H (σ ++ [v])) : SlOk t H0 G H r v := by
  have hl : σ.length = ρ.length := by have := m.len; simpa using this
  exact m.ok ρ.length r v (by simp) (by rw [← hl]; simp)
/-- the last is stored at i -/
theorem Mt.store (m : Mt t G0 H0 (ρ ++ κ ++ [r]) G H (σ ++ τ ++ [v])) (hl : σ.length = ρ.length) (i : Nat) : Mt t G0 H0 (ρ.set i r ++ κ) G H (σ.set i v ++ τ) := by
  have ht : τ.length = κ.length := by have := m.len; simp at this; omega
  refine m.sub (fun k => if k = i ∧ i < ρ.length then (ρ ++ κ).length else k) (fun a b ha hb e => ?_) (by simp [hl, ht]) fun k r' v' h1 h2 => .inr ?_
  · have ha : a < (ρ ++ κ).length := by simpa using ha
    have hb : b < (ρ ++ κ).length := by simpa using hb
    by_cases h1 : a = i ∧ i < ρ.length
    · by_cases h2 : b = i ∧ i < ρ.length
      · omega
      · simp only [if_pos h1, if_neg h2] at e
        omega
    · by_cases h2 : b = i ∧ i < ρ.length
      · simp only [if_neg h1, if_pos h2] at e
        omega
      · simp only [if_neg h1, if_neg h2] at e
        exact e
  · have hk : k < (ρ ++ κ).length := by have := (List.getElem?_eq_some_iff.mp h1).1; simpa using this
    by_cases hc : k = i ∧ i < ρ.length
    · simp only [if_pos hc]
      obtain ⟨rfl, hi⟩ := hc
      rw [List.getElem?_append_left (by simpa using hi), List.getElem?_set_self hi] at h1
      rw [List.getElem?_append_left (by simpa [hl] using hi), List.getElem?_set_self (by rw [hl]; exact hi)] at h2
      cases h1; cases h2
      refine ⟨by simp, ?_⟩
      have e : (ρ ++ κ).length = (σ ++ τ).length := by simp [hl, ht]
      rw [e]; simp
    · simp only [if_neg hc]
      have q1 : (ρ ++ κ)[k]? = some r' := by
        by_cases hi : i < ρ.length
        · have hki : k ≠ i := fun e => hc ⟨e, hi⟩
          by_cases hkr : k < ρ.length
          · rw [List.getElem?_append_left (by simpa using hkr), List.getElem?_set_ne (Ne.symm hki)] at h1
            rw [List.getElem?_append_left hkr]; exact h1
          · rw [List.getElem?_append_right (by simpa using hkr), List.length_set] at h1
            rw [List.getElem?_append_right (by omega)]; exact h1
        · rw [List.set_eq_of_length_le (by omega)] at h1; exact h1
      have q2 : (σ ++ τ)[k]? = some v' := by
        by_cases hi : i < ρ.length
        · have hki : k ≠ i := fun e => hc ⟨e, hi⟩
          by_cases hkr : k < σ.length
          · rw [List.getElem?_append_left (by simpa using hkr), List.getElem?_set_ne (Ne.symm hki)] at h2
            rw [List.getElem?_append_left hkr]; exact h2
          · rw [List.getElem?_append_right (by simpa using hkr), List.length_set] at h2
            rw [List.getElem?_append_right (by omega)]; exact h2
        · rw [List.set_eq_of_length_le (by omega)] at h2; exact h2
      exact ⟨by rw [List.getElem?_append_left hk]; exact q1, by rw [List.getElem?_append_left (by simp [hl, ht]; simpa using hk)]; exact q2⟩
/-- the block's own names forgotten -/
def wipeE (ρ : En) : List Nat → En
  | [] => ρ
  | v :: vs => (wipeE ρ vs).set v .un
theorem wipeE_length (ρ : En) : ∀ vs : List Nat, (wipeE ρ vs).length = ρ.length
  | [] => rfl
  | v :: vs => by unfold wipeE; rw [List.length_set, wipeE_length ρ vs]
theorem wipe_at (ρ : En) (σ : L2.St) (hl : σ.length = ρ.length) : ∀ (vs : List Nat) (k : Nat) (r : Sl) (v : Option V), (wipeE ρ vs)[k]? = some r → (wipe σ vs)[k]? = some v → r = .un ∨ (ρ[k]? = some r ∧ σ[k]? = some v)
  | [], k, r, v, h1, h2 => .inr ⟨h1, h2⟩
  | x :: vs, k, r, v, h1, h2 => by
    unfold wipeE at h1
    unfold wipe at h2
    by_cases hk : x = k
    · subst hk
      by_cases hx : x < (wipeE ρ vs).length
      · rw [List.getElem?_set_self hx] at h1
        cases h1
        exact .inl rfl
      · rw [List.getElem?_eq_none (by simpa using hx)] at h1; cases h1
    · rw [List.getElem?_set_ne hk] at h1 h2
      exact wipe_at ρ σ hl vs k r v h1 h2
theorem Mt.wipe (m : Mt t G0 H0 (ρ ++ κ) G H (σ ++ τ)) (hl : σ.length = ρ.length) (vs : List Nat) : Mt t G0 H0 (wipeE ρ vs ++ κ) G H (wipe σ vs ++ τ) := by
  have ht : τ.length = κ.length := by have := m.len; simp at this; omega
  refine m.sub id (fun _ _ _ _ e => e) (by rw [List.length_append, List.length_append, wipe_length, wipeE_length, hl, ht]) fun k r v h1 h2 => ?_
  by_cases hk : k < ρ.length
  · rw [List.getElem?_append_left (by rw [wipeE_length]; exact hk)] at h1
    rw [List.getElem?_append_left (by rw [wipe_length, hl]; exact hk)] at h2
    rcases wipe_at ρ σ hl vs k r v h1 h2 with e | ⟨q1, q2⟩
    · exact .inl e
    · refine .inr ⟨?_, ?_⟩
      · rw [id, List.getElem?_append_left hk]; exact q1
      · rw [id, List.getElem?_append_left (by rw [hl]; exact hk)]; exact q2
  · rw [List.getElem?_append_right (by rw [wipeE_length]; omega), wipeE_length] at h1
    rw [List.getElem?_append_right (by rw [wipe_length, hl]; omega), wipe_length] at h2
    refine .inr ⟨?_, ?_⟩
    · rw [id, List.getElem?_append_right (by omega)]; exact h1
    · rw [id, List.getElem?_append_right (by rw [hl]; omega)]; exact h2
end
end DL
end

section
set_option maxRecDepth 100000
set_option maxHeartbeats 4000000
/-! What a reading evaluates to, by data. -/
namespace DL
open PySem PySem.Spec PyProof.Rows L2

/-- the heap as it is, or one new immutable object -/
def Al (G H G' H' : Hp) : Prop := (G' = G ∧ H' = H) ∨ ∃ p o, H p = none ∧ G' = upd G p o ∧ H' = upd H p o
theorem Al.refl {G H : Hp} : Al G H G H := .inl ⟨rfl, rfl⟩
theorem Al.new {G H : Hp} {p : Addr} {o : HO} (h : H p = none) : Al G H (upd G p o) (upd H p o) := .inr ⟨p, o, h, rfl, rfl⟩
theorem Mt.al {t : Addr} {G0 H0 G H G' H' : Hp} {ρ : En} {σ : L2.St} (m : Mt t G0 H0 ρ G H σ) (a : Al G H G' H') : Mt t G0 H0 ρ G' H' σ := by
  rcases a with ⟨rfl, rfl⟩ | ⟨p, o, h, rfl, rfl⟩
  · exact m
  · exact m.new h
theorem Al.grows {G H G' H' : Hp} (s : Same G H) (a : Al G H G' H') : Same G G' := by
  rcases a with ⟨rfl, rfl⟩ | ⟨p, o, h, rfl, rfl⟩
  · exact Same.refl _
  · exact same_upd (s.free h)

/-! ### judgements on readings -/
def EvD (te : TE) (ρ ρ' : En) (r : Sl) : Prop :=
  ∀ (t : Addr) (G0 H0 : Hp) (κ : En) (τ : L2.St) (G H : Hp) (σ : L2.St), σ.length = ρ.length → Mt t G0 H0 (ρ ++ κ) G H (σ ++ τ) →
    ∀ Q : VK, (∀ v G' H', Mt t G0 H0 (ρ' ++ κ ++ [r]) G' H' (σ ++ τ ++ [some v]) → Q v H') → te σ H Q
def EvT (tt : TT) (ρ ρ' : En) (b : Bool) : Prop :=
  ∀ (t : Addr) (G0 H0 : Hp) (κ : En) (τ : L2.St) (G H : Hp) (σ : L2.St), σ.length = ρ.length → Mt t G0 H0 (ρ ++ κ) G H (σ ++ τ) →
    ∀ Q : Bool → Hp → Prop, (∀ G' H', Mt t G0 H0 (ρ' ++ κ) G' H' (σ ++ τ) → Q b H') → tt σ H Q
def EvA (ta : TA) (ρ ρ' : En) (rs : En) : Prop :=
  ∀ (t : Addr) (G0 H0 : Hp) (κ : En) (τ : L2.St) (G H : Hp) (σ : L2.St), σ.length = ρ.length → Mt t G0 H0 (ρ ++ κ) G H (σ ++ τ) →
    ∀ Q : List V → Hp → Prop, (∀ vs G' H', vs.length = rs.length → Mt t G0 H0 (ρ' ++ κ ++ rs) G' H' (σ ++ τ ++ vs.map some) → Q vs H') → ta σ H Q
/-- a target that writes the slots js -/
def EvG (tg : TG) (js : List Nat) (r : Sl) (ρ ρ' : En) : Prop :=
  ∀ (t : Addr) (G0 H0 : Hp) (κ : En) (τ : L2.St) (G H : Hp) (σ : L2.St) (v : V), σ.length = ρ.length → Mt t G0 H0 (ρ ++ κ ++ [r]) G H (σ ++ τ ++ [some v]) →
    ∀ Q : L2.St → Hp → Prop, (∀ σ' G' H', σ'.length = σ.length → (∀ k, k ∉ js → σ'[k]? = σ[k]?) → Mt t G0 H0 (ρ' ++ κ) G' H' (σ' ++ τ) → Q σ' H') → tg v σ H Q
/-- what an iterator yields, from a state on -/
structure ItD (J : It) (ds : List D) (G : Hp) : Prop where
  go : ∀ i G' H', Same G G' → Same G' H' → i < ds.length → J.go i H'
  stop : ∀ G' H', Same G G' → Same G' H' → J.stop ds.length H'
  yld : ∀ i d G' H' x H'', Same G G' → Same G' H' → ds[i]? = some d → J.yld i H' x H'' → ∃ G'', Al G' H' G'' H'' ∧ Rep G'' x d
def EvI (wi : TI) (ρ ρ' : En) (ds : List D) : Prop :=
  ∀ (t : Addr) (G0 H0 : Hp) (κ : En) (τ : L2.St) (G H : Hp) (σ : L2.St), σ.length = ρ.length → Mt t G0 H0 (ρ ++ κ) G H (σ ++ τ) →
    ∀ R : It → Hp → Prop, (∀ J G' H', Mt t G0 H0 (ρ' ++ κ) G' H' (σ ++ τ) → ItD J ds G' → R J H') → wi σ H R

/-! ### lengths -/
theorem Mt.len2 {t : Addr} {G0 H0 G H : Hp} {ρ ρ' κ : En} {σ τ : L2.St} (m : Mt t G0 H0 (ρ ++ κ) G H (σ ++ τ)) (h : σ.length = ρ.length) : τ.length = κ.length := by
  have := m.len; simp at this; omega
theorem Mt.len3 {t : Addr} {G0 H0 G H : Hp} {ρ κ : En} {r : Sl} {σ τ : L2.St} {v : Option V} (m : Mt t G0 H0 (ρ ++ κ ++ [r]) G H (σ ++ τ ++ [v])) (h : τ.length = κ.length) : σ.length = ρ.length := by
  have := m.len; simp at this; omega
theorem Mt.len4 {t : Addr} {G0 H0 G H : Hp} {ρ κ : En} {σ τ : L2.St} (m : Mt t G0 H0 (ρ ++ κ) G H (σ ++ τ)) (h : τ.length = κ.length) : σ.length = ρ.length := by
  have := m.len; simp at this; omega

section
variable {ρ ρ1 ρ2 ρ3 : En} {ta tb te : TE} {x y z d : D} {r : Sl}
/-- two in a row -/
theorem EvD.two {rx ry : Sl} (ha : EvD ta ρ ρ1 rx) (hb : EvD tb ρ1 ρ2 ry) {t : Addr} {G0 H0 : Hp} {κ : En} {τ : L2.St} {G H : Hp} {σ : L2.St} (hl : σ.length = ρ.length) (m : Mt t G0 H0 (ρ ++ κ) G H (σ ++ τ))
    {Q : V → V → Hp → Prop} (h : ∀ v u G' H', Mt t G0 H0 (ρ2 ++ κ ++ [rx] ++ [ry]) G' H' (σ ++ τ ++ [some v] ++ [some u]) → Q v u H') : ta σ H fun v H1 => tb σ H1 fun u H2 => Q v u H2 := by
  refine ha t G0 H0 κ τ G H σ hl m _ fun v G1 H1 m1 => ?_
  have hl1 := m1.len3 (m.len2 (ρ' := ρ) hl)
  rw [List.append_assoc, List.append_assoc] at m1
  refine hb t G0 H0 (κ ++ [rx]) (τ ++ [some v]) G1 H1 σ hl1 m1 _ fun u G2 H2 m2 => ?_
  refine h v u G2 H2 ?_
  rw [← List.append_assoc, ← List.append_assoc] at m2
  exact m2
/-- a mutable result is frozen -/
theorem EvD.fz (h : EvD te ρ ρ1 (.ow d)) : EvD te ρ ρ1 (.va d) := fun t G0 H0 κ τ G H σ hl m Q q => by
  refine h t G0 H0 κ τ G H σ hl m Q fun v G' H' m' => ?_
  have e : (ρ1 ++ κ ++ [Sl.ow d])[(ρ1 ++ κ).length]? = some (.ow d) := by simp
  obtain ⟨a, o, hv, _, _, _, _, _, m2⟩ := m'.freeze e
  rw [List.set_append_right _ _ (Nat.le_refl _), Nat.sub_self] at m2
  exact q v _ _ m2
theorem EvD.is {d' : D} (h : EvD te ρ ρ1 (.va d)) (e : d = d') : EvD te ρ ρ1 (.va d') := e ▸ h
theorem EvT.is {t : TT} {b b' : Bool} (h : EvT t ρ ρ1 b) (e : b = b') : EvT t ρ ρ1 b' := e ▸ h

/-! ### names, constants -/
theorem ev_var {i : Nat} (h : ρ[i]? = some (.va d)) : EvD (tVar i) ρ ρ (.va d) := fun t G0 H0 κ τ G H σ hl m Q q => by
  have hi : i < ρ.length := (List.getElem?_eq_some_iff.mp h).1
  have h' : (ρ ++ κ)[i]? = some (.va d) := by rw [List.getElem?_append_left hi]; exact h
  obtain ⟨u, e, w⟩ := m.va h'
  rw [List.getElem?_append_left (by rw [hl]; exact hi)] at e
  exact ⟨u, e, q u G H (m.push w)⟩
theorem ev_c {v : V} (h : ∀ G, Rep G v d) : EvD (tC v) ρ ρ (.va d) := fun t G0 H0 κ τ G H σ hl m Q q => q v G H (m.push (h G))

/-! ### operators -/
def OpV (r : R2) (x y z : D) : Prop := ∀ (G H : Hp) (u v : V), Same G H → Rep G u x → Rep G v y → ∀ Q : VK, (∀ w G' H', Al G H G' H' → Rep G' w z → Q w H') → r u v H Q
/-- .. whose result is a new mutable object -/
def OpO (r : R2) (x y z : D) : Prop := ∀ (G H : Hp) (u v : V), Same G H → Rep G u x → Rep G v y → ∀ Q : VK, (∀ p o, H p = none → Cont G (upd H p o) p z → Q (.ref p) (upd H p o)) → r u v H Q
theorem Mt.tail2 {t : Addr} {G0 H0 G H : Hp} {ρ : En} {rx ry : Sl} {σ : L2.St} {u v : Option V} (m : Mt t G0 H0 (ρ ++ [rx] ++ [ry]) G H (σ ++ [u] ++ [v])) : Mt t G0 H0 ρ G H σ ∧ SlOk t H0 G H rx u ∧ SlOk t H0 G H ry v := ⟨m.pop.pop, m.pop.last, m.last⟩
theorem SlOk.rep {t : Addr} {H0 G H : Hp} {d : D} {v : V} (h : SlOk t H0 G H (.va d) (some v)) : Rep G v d := by
  obtain ⟨u, e, w⟩ := h
  cases e; exact w
theorem ev_op {r : R2} (ha : EvD ta ρ ρ1 (.va x)) (hb : EvD tb ρ1 ρ2 (.va y)) (hr : OpV r x y z) : EvD (tOp r ta tb) ρ ρ2 (.va z) := fun t G0 H0 κ τ G H σ hl m Q q => by
  refine EvD.two ha hb hl m (Q := fun v u H2 => r v u H2 Q) fun v u G' H' m' => ?_
  obtain ⟨m0, hx, hy⟩ := m'.tail2
  exact hr G' H' v u m0.gr.gh hx.rep hy.rep Q fun w G2 H2 al rw => q w G2 H2 ((m0.al al).push rw)
theorem ev_opO {r : R2} (ha : EvD ta ρ ρ1 (.va x)) (hb : EvD tb ρ1 ρ2 (.va y)) (hr : OpO r x y z) : EvD (tOp r ta tb) ρ ρ2 (.ow z) := fun t G0 H0 κ τ G H σ hl m Q q => by
  refine EvD.two ha hb hl m (Q := fun v u H2 => r v u H2 Q) fun v u G' H' m' => ?_
  obtain ⟨m0, hx, hy⟩ := m'.tail2
  exact hr G' H' v u m0.gr.gh hx.rep hy.rep Q fun p o hp c => q _ G' _ (m0.pushOw hp c)
def UnV (r : V → Hp → VK → Prop) (x z : D) : Prop := ∀ (G H : Hp) (u : V), Same G H → Rep G u x → ∀ Q : VK, (∀ w G' H', Al G H G' H' → Rep G' w z → Q w H') → r u H Q
theorem ev_un {r : V → Hp → VK → Prop} (ha : EvD ta ρ ρ1 (.va x)) (hr : UnV r x z) : EvD (tUn r ta) ρ ρ1 (.va z) := fun t G0 H0 κ τ G H σ hl m Q q => by
  refine ha t G0 H0 κ τ G H σ hl m _ fun v G1 H1 m1 => ?_
  exact hr G1 H1 v m1.gr.gh m1.last.rep Q fun w G2 H2 al rw => q w G2 H2 ((m1.pop.al al).push rw)

/-! ### arguments, displays, calls of built-ins -/
theorem ea_nil : EvA tNil ρ ρ [] := fun t G0 H0 κ τ G H σ hl m Q q => q [] G H rfl (by simpa using m)
theorem ea_cons {tr : TA} {rs : En} (h : EvD ta ρ ρ1 r) (hr : EvA tr ρ1 ρ2 rs) : EvA (tCons ta tr) ρ ρ2 (r :: rs) := fun t G0 H0 κ τ G H σ hl m Q q => by
  refine h t G0 H0 κ τ G H σ hl m _ fun v G1 H1 m1 => ?_
  have hl1 := m1.len3 (m.len2 (ρ' := ρ) hl)
  rw [List.append_assoc, List.append_assoc] at m1
  refine hr t G0 H0 (κ ++ [r]) (τ ++ [some v]) G1 H1 σ hl1 m1 _ fun vs G2 H2 lv m2 => ?_
  refine q (v :: vs) G2 H2 (by simp [lv]) ?_
  have e1 : ρ2 ++ (κ ++ [r]) ++ rs = ρ2 ++ κ ++ (r :: rs) := by simp
  have e2 : σ ++ (τ ++ [some v]) ++ vs.map some = σ ++ τ ++ (v :: vs).map some := by simp
  rw [e1, e2] at m2
  exact m2
/-- all of several pending values, dropped -/
theorem Mt.popAll {t : Addr} {G0 H0 G H : Hp} : ∀ {ds : List D} {ρ : En} {σ : L2.St} {vs : List V}, σ.length = ρ.length → Mt t G0 H0 (ρ ++ ds.map Sl.va) G H (σ ++ vs.map some) → Mt t G0 H0 ρ G H σ ∧ Reps G vs ds
  | [], ρ, σ, vs, hl, m => by
    have : vs = [] := by
      have := m.len; simp at this
      exact List.length_eq_zero_iff.mp (by omega)
    subst this
    exact ⟨by simpa using m, .nil⟩
  | d :: ds, ρ, σ, [], hl, m => by
    have := m.len; simp at this; omega
  | d :: ds, ρ, σ, v :: vs, hl, m => by
    have m' : Mt t G0 H0 ((ρ ++ [Sl.va d]) ++ ds.map Sl.va) G H ((σ ++ [some v]) ++ vs.map some) := by simpa using m
    obtain ⟨m1, r1⟩ := Mt.popAll (by simp [hl]) m'
    exact ⟨m1.pop, .cons m1.last.rep r1⟩
def CallV (r : List V → Hp → VK → Prop) (xs : List D) (z : D) : Prop := ∀ (G H : Hp) (us : List V), Same G H → Reps G us xs → ∀ Q : VK, (∀ w G' H', Al G H G' H' → Rep G' w z → Q w H') → r us H Q
def CallO (r : List V → Hp → VK → Prop) (xs : List D) (z : D) : Prop := ∀ (G H : Hp) (us : List V), Same G H → Reps G us xs → ∀ Q : VK, (∀ p o, H p = none → Cont G (upd H p o) p z → Q (.ref p) (upd H p o)) → r us H Q
theorem EvA.all {ts : TA} {xs : List D} (h : EvA ts ρ ρ1 (xs.map Sl.va)) {t : Addr} {G0 H0 : Hp} {κ : En} {τ : L2.St} {G H : Hp} {σ : L2.St} (hl : σ.length = ρ.length) (m : Mt t G0 H0 (ρ ++ κ) G H (σ ++ τ))
    {Q : List V → Hp → Prop} (q : ∀ vs G' H', Mt t G0 H0 (ρ1 ++ κ) G' H' (σ ++ τ) → Reps G' vs xs → Q vs H') : ts σ H Q := by
  refine h t G0 H0 κ τ G H σ hl m _ fun vs G1 H1 lv m1 => ?_
  have hl2 : (σ ++ τ).length = (ρ1 ++ κ).length := by have := m1.len; simp at this lv ⊢; omega
  obtain ⟨m0, rs⟩ := Mt.popAll hl2 m1
  exact q vs G1 H1 m0 rs
theorem ev_call {r : List V → Hp → VK → Prop} {ts : TA} {xs : List D} (h : EvA ts ρ ρ1 (xs.map Sl.va)) (hr : CallV r xs z) : EvD (tCB r ts) ρ ρ1 (.va z) := fun t G0 H0 κ τ G H σ hl m Q q =>
  h.all hl m fun vs G1 H1 m1 rs => hr G1 H1 vs m1.gr.gh rs Q fun w G2 H2 al rw => q w G2 H2 ((m1.al al).push rw)
theorem ev_callO {r : List V → Hp → VK → Prop} {ts : TA} {xs : List D} (h : EvA ts ρ ρ1 (xs.map Sl.va)) (hr : CallO r xs z) : EvD (tCB r ts) ρ ρ1 (.ow z) := fun t G0 H0 κ τ G H σ hl m Q q =>
  h.all hl m fun vs G1 H1 m1 rs => hr G1 H1 vs m1.gr.gh rs Q fun p o hp c => q _ G1 _ (m1.pushOw hp c)
theorem small_of {n : Nat} (h : n ≤ 100000) : n ≤ sizeLine := Nat.le_trans h (by decide)
theorem small_lt {n : Nat} (h : n < 100000) : n < sizeLine := Nat.lt_of_lt_of_le h (by decide)
theorem ev_tup {ts : TA} {xs : List D} (h : EvA ts ρ ρ1 (xs.map Sl.va)) (hz : xs.length ≤ 100000) : EvD (tTup ts) ρ ρ1 (.va (.tup xs)) := fun t G0 H0 κ τ G H σ hl m Q q =>
  h.all hl m fun vs G1 H1 m1 rs => ⟨by rw [rs.length]; exact small_of hz, fun p hp => q _ _ _ ((m1.new hp).push (.tup upd_same (rs.up (same_upd (m1.gr.gh.free hp)))))⟩
theorem ev_lst {ts : TA} {xs : List D} (h : EvA ts ρ ρ1 (xs.map Sl.va)) (hz : xs.length ≤ 100000) : EvD (tLst ts) ρ ρ1 (.ow (.lst xs)) := fun t G0 H0 κ τ G H σ hl m Q q =>
  h.all hl m fun vs G1 H1 m1 rs => ⟨by rw [rs.length]; exact small_of hz, fun p hp => q _ _ _ (m1.pushOw hp ⟨vs, upd_same, rs⟩)⟩
theorem ev_dnew : EvD tDNewK ρ ρ (.ow (.dic [] [])) := fun t G0 H0 κ τ G H σ hl m Q q =>
  fun p hp => q _ _ _ (m.pushOw hp ⟨[], upd_same, rfl, .nil⟩)

/-! ### tests -/
variable {t1 t2 : TT} {b b1 b2 : Bool}
theorem et_B (h : EvD te ρ ρ1 (.va (.bl b))) : EvT (tB te) ρ ρ1 b := fun t G0 H0 κ τ G H σ hl m Q q => by
  refine h t G0 H0 κ τ G H σ hl m _ fun v G1 H1 m1 => ?_
  have w := m1.last.rep
  cases w
  exact ⟨b, rfl, q G1 H1 m1.pop⟩
theorem et_test (h : EvD te ρ ρ1 (.va (.bl b))) : EvT (tTest te) ρ ρ1 b := et_B h
theorem et_yes : EvT tYes ρ ρ true := fun t G0 H0 κ τ G H σ hl m Q q => q G H m
theorem et_not (h : EvT t1 ρ ρ1 b) : EvT (tNot t1) ρ ρ1 (!b) := fun t G0 H0 κ τ G H σ hl m Q q => h t G0 H0 κ τ G H σ hl m _ fun G1 H1 m1 => q G1 H1 m1
/-- pure tests: the slots stay -/
theorem et_and (h1 : EvT t1 ρ ρ b1) (h2 : b1 = true → EvT t2 ρ ρ b2) : EvT (tAnd t1 t2) ρ ρ (b1 && b2) := fun t G0 H0 κ τ G H σ hl m Q q => by
  refine h1 t G0 H0 κ τ G H σ hl m _ fun G1 H1 m1 => ?_
  cases b1 with
  | true => exact h2 rfl t G0 H0 κ τ G1 H1 σ hl m1 Q q
  | false => exact q G1 H1 m1
theorem et_or (h1 : EvT t1 ρ ρ b1) (h2 : b1 = false → EvT t2 ρ ρ b2) : EvT (tOr t1 t2) ρ ρ (b1 || b2) := fun t G0 H0 κ τ G H σ hl m Q q => by
  refine h1 t G0 H0 κ τ G H σ hl m _ fun G1 H1 m1 => ?_
  cases b1 with
  | true => exact q G1 H1 m1
  | false => exact h2 rfl t G0 H0 κ τ G1 H1 σ hl m1 Q q
theorem ev_andV (h1 : EvD ta ρ ρ (.va (.bl b1))) (h2 : b1 = true → EvD tb ρ ρ (.va (.bl b2))) : EvD (tAndV ta tb) ρ ρ (.va (.bl (b1 && b2))) := fun t G0 H0 κ τ G H σ hl m Q q => by
  refine h1 t G0 H0 κ τ G H σ hl m _ fun v G1 H1 m1 => ?_
  have w := m1.last.rep
  cases w
  refine ⟨b1, rfl, ?_⟩
  cases b1 with
  | true => exact h2 rfl t G0 H0 κ τ G1 H1 σ hl m1.pop Q q
  | false => exact q _ G1 H1 (m1.pop.push (.bl _))
theorem ev_orV (h1 : EvD ta ρ ρ (.va (.bl b1))) (h2 : b1 = false → EvD tb ρ ρ (.va (.bl b2))) : EvD (tOrV ta tb) ρ ρ (.va (.bl (b1 || b2))) := fun t G0 H0 κ τ G H σ hl m Q q => by
  refine h1 t G0 H0 κ τ G H σ hl m _ fun v G1 H1 m1 => ?_
  have w := m1.last.rep
  cases w
  refine ⟨b1, rfl, ?_⟩
  cases b1 with
  | true => exact q _ G1 H1 (m1.pop.push (.bl _))
  | false => exact h2 rfl t G0 H0 κ τ G1 H1 σ hl m1.pop Q q
theorem ev_notV (h1 : EvD ta ρ ρ1 (.va (.bl b))) : EvD (tNotV ta) ρ ρ1 (.va (.bl (!b))) := fun t G0 H0 κ τ G H σ hl m Q q => by
  refine h1 t G0 H0 κ τ G H σ hl m _ fun v G1 H1 m1 => ?_
  have w := m1.last.rep
  cases w
  exact ⟨b, rfl, q _ G1 H1 (m1.pop.push (.bl _))⟩
theorem ev_if (h : EvT t1 ρ ρ1 b) (h1 : b = true → EvD ta ρ1 ρ2 r) (h2 : b = false → EvD tb ρ1 ρ2 r) : EvD (tIf t1 ta tb) ρ ρ2 r := fun t G0 H0 κ τ G H σ hl m Q q => by
  refine h t G0 H0 κ τ G H σ hl m _ fun G1 H1 m1 => ?_
  have hl1 := m1.len4 (m.len2 (ρ' := ρ) hl)
  cases b with
  | true => exact h1 rfl t G0 H0 κ τ G1 H1 σ hl1 m1 Q q
  | false => exact h2 rfl t G0 H0 κ τ G1 H1 σ hl1 m1 Q q
/-- a chain a < b < c -/
theorem ev_chain {r1 r2 : R2} {tc : TE} (ha : EvD ta ρ ρ (.va x)) (hb : EvD tb ρ ρ (.va y)) (h1 : OpV r1 x y (.bl b1)) (hc : EvD tc ρ ρ (.va z)) (h2 : OpV r2 y z (.bl b2)) :
    EvD (tChain r1 r2 ta tb tc) ρ ρ (.va (.bl (b1 && b2))) := fun t G0 H0 κ τ G H σ hl m Q q => by
  refine EvD.two ha hb hl m (Q := fun u v H2 => r1 u v H2 fun z H3 => ∃ k, z = .bl k ∧ (if k = true then tc σ H3 fun w' H4 => r2 v w' H4 Q else Q (.bl false) H3)) fun u v G' H' m' => ?_
  obtain ⟨m0, hx, hy⟩ := m'.tail2
  refine h1 G' H' u v m0.gr.gh hx.rep hy.rep _ fun w G2 H2 al rw => ?_
  cases rw
  have m2 := m0.al al
  refine ⟨b1, rfl, ?_⟩
  cases b1 with
  | true =>
    have ry : Rep G2 v y := hy.rep.up (al.grows m0.gr.gh)
    have m3 := m2.push ry
    rw [List.append_assoc, List.append_assoc] at m3
    refine hc t G0 H0 (κ ++ [.va y]) (τ ++ [some v]) G2 H2 σ hl m3 _ fun w' G4 H4 m4 => ?_
    have e1 : ρ ++ (κ ++ [Sl.va y]) ++ [Sl.va z] = (ρ ++ κ) ++ [Sl.va y] ++ [Sl.va z] := by simp
    have e2 : σ ++ (τ ++ [some v]) ++ [some w'] = (σ ++ τ) ++ [some v] ++ [some w'] := by simp
    rw [e1, e2] at m4
    obtain ⟨m5, hv, hw⟩ := m4.tail2
    exact h2 G4 H4 v w' m5.gr.gh hv.rep hw.rep Q fun w2 G5 H5 al5 rw5 => q w2 G5 H5 ((m5.al al5).push rw5)
  | false => exact q _ G2 H2 (m2.push (.bl _))
end

/-! ### borrowing a mutable slot -/
section
variable {ρ ρ1 ρ2 ρ3 : En} {te : TE} {tt : TT} {d d' : D} {i : Nat}
theorem set_app {α : Type} {l k : List α} {i : Nat} {x : α} (h : i < l.length) : (l ++ k).set i x = l.set i x ++ k := List.set_append_left _ _ h
/-- forever -/
theorem EvD.frz {r : Sl} (hi : ρ[i]? = some (.ow d)) (h : EvD te (ρ.set i (.va d)) ρ1 r) : EvD te ρ ρ1 r := fun t G0 H0 κ τ G H σ hl m Q q => by
  have hlt : i < ρ.length := (List.getElem?_eq_some_iff.mp hi).1
  obtain ⟨a, o, _, _, _, _, _, _, m2⟩ := m.freeze (i := i) (d := d) (by rw [List.getElem?_append_left hlt]; exact hi)
  rw [set_app hlt] at m2
  exact h t G0 H0 κ τ _ H σ (by simpa using hl) m2 Q q
/-- what does not hold a borrowed one: a result without lists, without dicts -/
def noLst : D → Bool
  | .lst _ => false
  | .tup _ => false
  | .dic _ _ => false
  | .scr _ _ => false
  | _ => true
theorem Rep.flat {G G' : Hp} {v : V} (h : Rep G v d) (f : noLst d = true) : Rep G' v d := by
  cases h <;> first | exact .non | exact .bl _ | exact .int _ | exact .str _ | exact .ob _ | exact .ty _ | exact absurd f (by simp [noLst])
def borS : Sl → Sl
  | .ow d => .va d
  | .ti d => .va d
  | r => r
/-- every mutable slot read as a value -/
abbrev borE (ρ : En) : En := ρ.map borS
/-- the addresses of the mutable slots -/
def Own (t : Addr) (ρ : En) (σ : L2.St) (a : Addr) : Prop := ∃ (k : Nat) (r : Sl) (v : Option V), ρ[k]? = some r ∧ σ[k]? = some v ∧ ownA t r v = some a
open Classical in
noncomputable def addO (O : Addr → Prop) (G H : Hp) : Hp := fun b => if O b then H b else G b
open Classical in
noncomputable def subO (O : Addr → Prop) (G : Hp) : Hp := fun b => if O b then none else G b
theorem addO_in {O : Addr → Prop} {G H : Hp} {b : Addr} (h : O b) : addO O G H b = H b := if_pos h
theorem addO_out {O : Addr → Prop} {G H : Hp} {b : Addr} (h : ¬ O b) : addO O G H b = G b := if_neg h
theorem subO_in {O : Addr → Prop} {G : Hp} {b : Addr} (h : O b) : subO O G b = none := if_pos h
theorem subO_out {O : Addr → Prop} {G : Hp} {b : Addr} (h : ¬ O b) : subO O G b = G b := if_neg h
section
variable {t : Addr} {G0 H0 G H G1 H1 : Hp} {κ : En} {σ τ : L2.St}
theorem Mt.own_free (m : Mt t G0 H0 ρ G H σ) {a : Addr} (h : Own t ρ σ a) : G a = none ∧ H0 a = none ∧ ∃ o, H a = some o := by
  obtain ⟨k, r, v, h1, h2, h3⟩ := h
  exact (m.ok k r v h1 h2).ow_at (d := .non) h3
theorem Mt.same_add (m : Mt t G0 H0 ρ G H σ) : Same G (addO (Own t ρ σ) G H) := fun b x e => by
  by_cases h : Own t ρ σ b
  · rw [(m.own_free h).1] at e; cases e
  · rw [addO_out h]; exact e
/-- the state in which all is borrowed -/
theorem Mt.borrow (m : Mt t G0 H0 ρ G H σ) : Mt t (addO (Own t ρ σ) G H) H (borE ρ) (addO (Own t ρ σ) G H) H σ := by
  have up := m.same_add
  have sl : Same (addO (Own t ρ σ) G H) H := fun b x e => by
    by_cases h : Own t ρ σ b
    · rw [addO_in h] at e; exact e
    · rw [addO_out h] at e; exact m.gr.gh b x e
  refine ⟨Gr.refl sl, by simp [m.len], fun k r v h1 h2 => ?_, fun i j r s v u a hij h1 h2 h3 h4 e1 e2 => ?_⟩
  · rw [List.getElem?_map] at h1
    cases e : ρ[k]? with
    | none => rw [e] at h1; cases h1
    | some r0 =>
      rw [e] at h1
      have h1 : borS r0 = r := Option.some.inj h1
      have q := m.ok k r0 v e h2
      have cr : ∀ {a : Addr} {d : D}, Own t ρ σ a → Cont G H a d → Rep (addO (Own t ρ σ) G H) (.ref a) d := fun {a d} ha c => by
        obtain ⟨o, ho⟩ := c.some
        have e2 : addO (Own t ρ σ) G H a = some o := by rw [addO_in ha]; exact ho
        cases d with
        | lst ds =>
          obtain ⟨xs, q1, q2⟩ := c
          rw [ho] at q1; cases q1
          exact .lst e2 (q2.up up)
        | dic ks ds =>
          obtain ⟨xs, q1, q2, q3⟩ := c
          rw [ho] at q1; cases q1
          exact .dic e2 q2 (q3.up up)
        | _ => exact c.elim
      cases r0 with
      | un => subst h1; exact True.intro
      | va d => subst h1; obtain ⟨u, w1, w2⟩ := q; exact ⟨u, w1, w2.up up⟩
      | ow d => subst h1; obtain ⟨a, w1, w2, w3, w4⟩ := q; exact ⟨_, w1, cr ⟨k, _, _, e, h2, by rw [w1] <;> rfl⟩ w4⟩
      | ti d => subst h1; obtain ⟨w1, w2, w3, w4⟩ := q; exact ⟨_, w1, cr ⟨k, _, _, e, h2, by rw [w1] <;> rfl⟩ w4⟩
  · rw [List.getElem?_map] at h1
    cases e : ρ[i]? with
    | none => rw [e] at h1; cases h1
    | some r0 =>
      rw [e] at h1
      have h1 : borS r0 = r := Option.some.inj h1
      cases r0 <;> (subst h1; cases e1)
/-- behind such an evaluation -/
theorem Mt.unborrow (m : Mt t G0 H0 (ρ ++ κ) G H (σ ++ τ)) (hl : σ.length = ρ.length) (g : Gr (addO (Own t ρ σ) G H) H G1 H1) : Mt t G0 H0 (ρ ++ κ) (subO (Own t ρ σ) G1) H1 (σ ++ τ) := by
  have big : ∀ {a}, Own t ρ σ a → Own t (ρ ++ κ) (σ ++ τ) a := fun {a} ⟨k, r, v, h1, h2, h3⟩ =>
    ⟨k, r, v, by rw [List.getElem?_append_left (List.getElem?_eq_some_iff.mp h1).1]; exact h1, by rw [List.getElem?_append_left (List.getElem?_eq_some_iff.mp h2).1]; exact h2, h3⟩
  have sg : Same G (subO (Own t ρ σ) G1) := fun b x e => by
    by_cases h : Own t ρ σ b
    · rw [(m.own_free (big h)).1] at e; cases e
    · rw [subO_out h]; exact g.g b x (by rw [addO_out h]; exact e)
  have key : ∀ b, G b = none → H b ≠ none → subO (Own t ρ σ) G1 b = none := fun b h1 h2 => by
    by_cases h : Own t ρ σ b
    · exact subO_in h
    · rw [subO_out h]; exact g.n b (by rw [addO_out h]; exact h1) h2
  refine m.heap ⟨m.gr.g.trans sg, m.gr.h.trans g.h, fun b x e => ?_, fun b h1 h2 => key b (m.gr.n b h1 h2) ?_⟩ sg g.h fun b h1 h2 _ => key b h1 h2
  · by_cases h : Own t ρ σ b
    · rw [subO_in h] at e; cases e
    · rw [subO_out h] at e; exact g.gh b x e
  · cases e : H0 b with
    | none => exact absurd e h2
    | some o => rw [m.gr.h b o e]; exact fun z => nomatch z
end
theorem Mt.nil {t : Addr} {G0 H0 G H : Hp} {σ : L2.St} (m : Mt t G0 H0 ρ G H σ) : Mt t G0 H0 (ρ ++ []) G H (σ ++ []) := by
  rw [List.append_nil, List.append_nil]; exact m
theorem Mt.front {t : Addr} {G0 H0 G H : Hp} {κ : En} {σ τ : L2.St} (m : Mt t G0 H0 (ρ ++ κ) G H (σ ++ τ)) (hl : σ.length = ρ.length) : Mt t G0 H0 ρ G H σ :=
  m.sub id (fun _ _ _ _ e => e) hl fun k r v h1 h2 => .inr ⟨by rw [id, List.getElem?_append_left (List.getElem?_eq_some_iff.mp h1).1]; exact h1, by rw [id, List.getElem?_append_left (List.getElem?_eq_some_iff.mp h2).1]; exact h2⟩
/-- an expression read with all borrowed, its result plain -/
theorem EvD.bor (h : EvD te (borE ρ) (borE ρ) (.va d)) (f : noLst d = true) : EvD te ρ ρ (.va d) := fun t G0 H0 κ τ G H σ hl m Q q => by
  have mf := m.front hl
  refine h t _ _ [] [] _ _ σ (by simpa using hl) mf.borrow.nil _ fun v G1 H1 m1 => ?_
  have e1 : borE ρ ++ [] ++ [Sl.va d] = borE ρ ++ [Sl.va d] := by simp
  have e2 : σ ++ [] ++ [some v] = σ ++ [some v] := by simp
  rw [e1, e2] at m1
  exact q v _ H1 ((m.unborrow hl m1.gr).push (m1.last.rep.flat f))
theorem EvT.bor {b : Bool} (h : EvT tt (borE ρ) (borE ρ) b) : EvT tt ρ ρ b := fun t G0 H0 κ τ G H σ hl m Q q => by
  have mf := m.front hl
  refine h t _ _ [] [] _ _ σ (by simpa using hl) mf.borrow.nil _ fun G1 H1 m1 => ?_
  exact q _ H1 (m.unborrow hl m1.gr)
/-- all mutable slots are dicts -/
def ownDic : En → Bool
  | [] => true
  | .ow (.dic _ _) :: ρ => ownDic ρ
  | .ow _ :: _ => false
  | .ti _ :: _ => false
  | _ :: ρ => ownDic ρ
theorem ownDic_at : ∀ {ρ : En}, ownDic ρ = true → ∀ (k : Nat) (r : Sl), ρ[k]? = some r → (∃ ks ds, r = .ow (.dic ks ds)) ∨ r = .un ∨ ∃ d, r = .va d
  | [], _, k, r, h => by simp at h
  | x :: ρ, h, 0, r, e => by
    have e : x = r := by simpa using e
    subst e
    cases x with
    | un => exact .inr (.inl rfl)
    | va d => exact .inr (.inr ⟨_, rfl⟩)
    | ow d => cases d <;> first | exact .inl ⟨_, _, rfl⟩ | exact absurd h (by simp [ownDic])
    | ti d => exact absurd h (by simp [ownDic])
  | x :: ρ, h, k + 1, r, e => by
    have h' : ownDic ρ = true := by
      cases x with
      | un => exact h
      | va d => exact h
      | ow d => cases d <;> first | exact h | exact absurd h (by simp [ownDic])
      | ti d => exact absurd h (by simp [ownDic])
    exact ownDic_at h' k r (by simpa using e)
theorem Reps.flat {G G' : Hp} : ∀ {vs : List V} {ds : List D}, Reps G vs ds → ds.all noLst = true → Reps G' vs ds
  | _, _, .nil, _ => .nil
  | _, _, .cons r t, h => by
    rw [List.all_cons, Bool.and_eq_true] at h
    exact .cons (r.flat h.1) (Reps.flat t h.2)
/-- .. a list of plain things, the borrowed ones dicts -/
theorem EvD.borL {ds : List D} (h : EvD te (borE ρ) (borE ρ) (.va (.lst ds))) (f : ds.all noLst = true) (o : ownDic ρ = true) : EvD te ρ ρ (.va (.lst ds)) := fun t G0 H0 κ τ G H σ hl m Q q => by
  have mf := m.front hl
  refine h t _ _ [] [] _ _ σ (by simpa using hl) mf.borrow.nil _ fun v G1 H1 m1 => ?_
  have e1 : borE ρ ++ [] ++ [Sl.va (.lst ds)] = borE ρ ++ [Sl.va (.lst ds)] := by simp
  have e2 : σ ++ [] ++ [some v] = σ ++ [some v] := by simp
  rw [e1, e2] at m1
  have w := m1.last.rep
  refine q v _ H1 ((m.unborrow hl m1.gr).push ?_)
  cases w with
  | @lst a xs ds h1 h2 =>
    refine .lst ?_ (h2.flat f)
    have hn : ¬ Own t ρ σ a := fun ⟨k, r, v, q1, q2, q3⟩ => by
      rcases ownDic_at o k r q1 with ⟨ks, es, rfl⟩ | rfl | ⟨d, rfl⟩
      · obtain ⟨a', w1, w2, w3, ys, w4, _⟩ := mf.ow q1
        rw [q2] at w1; cases w1
        cases q3
        have z : addO (Own t ρ σ) G H a = some (.dK (kvsOf ks ys)) := by rw [addO_in ⟨k, _, _, q1, q2, rfl⟩]; exact w4
        have := m1.gr.g _ _ z
        rw [h1] at this; cases this
      · cases q3
      · cases q3
    rw [subO_out hn]; exact h1
end
end DL
end

section
set_option maxRecDepth 100000
set_option maxHeartbeats 4000000
/-! Targets, iterators, comprehensions, statements, loops, by data. -/
namespace DL
open PySem PySem.Spec PyProof.Rows L2

/-! ### targets -/
section
variable {ρ ρ1 ρ2 : En} {r : Sl} {d : D}
theorem eg_name (i : Nat) : EvG (gName i) [i] r ρ (ρ.set i r) := fun t G0 H0 κ τ G H σ v hl m Q q =>
  q _ G H (by simp) (fun k hk => by rw [List.getElem?_set_ne (by intro e; exact hk (by simp [e]))]) (m.store hl i)
/-- several targets: the pending values are stored one after another, from the front -/
def EvGs (tg : TGs) (js : List Nat) (rs : List D) (ρ ρ' : En) : Prop :=
  ∀ (t : Addr) (G0 H0 : Hp) (κ : En) (τ : L2.St) (G H : Hp) (σ : L2.St) (vs : List V), σ.length = ρ.length → Mt t G0 H0 (ρ ++ κ) G H (σ ++ τ) → Reps G vs rs →
    ∀ Q : L2.St → Hp → Prop, (∀ σ' G' H', σ'.length = σ.length → (∀ k, k ∉ js → σ'[k]? = σ[k]?) → Same G G' → Mt t G0 H0 (ρ' ++ κ) G' H' (σ' ++ τ) → Q σ' H') → tg vs σ H Q
theorem egs_nil : EvGs gNil [] [] ρ ρ := fun t G0 H0 κ τ G H σ vs hl m rs Q q => by
  cases rs
  exact ⟨rfl, q σ G H rfl (fun _ _ => rfl) (Same.refl G) m⟩
theorem egs_name {i : Nat} {js : List Nat} {ds : List D} {u : TGs} (h : EvGs u js ds (ρ.set i (.va d)) ρ2) : EvGs (gCons (gName i) u) (i :: js) (d :: ds) ρ ρ2 := fun t G0 H0 κ τ G H σ vs hl m rs Q q => by
  cases rs with
  | @cons v vs _ _ r1 r2 =>
    refine ⟨v, vs, rfl, ?_⟩
    have m1 := (m.push r1).store hl i
    refine h t G0 H0 κ τ G H (σ.set i (some v)) vs (by simp [hl]) m1 r2 Q fun σ' G' H' l1 k1 s1 m2 => ?_
    refine q σ' G' H' (by rw [l1]; simp) (fun k hk => ?_) s1 m2
    rw [k1 k (fun z => hk (List.mem_cons_of_mem _ z)), List.getElem?_set_ne (by intro e; exact hk (by simp [e]))]
theorem eg_tup {K : PySem.W.Frag} {n : Nat} {js : List Nat} {ds : List D} {u : TGs} (h : EvGs u js ds ρ ρ1) (hn : ds.length = n) : EvG (gTup K n u) js (.va (.tup ds)) ρ ρ1 := fun t G0 H0 κ τ G H σ v hl m Q q => by
  have w := m.last.rep
  cases w with
  | @tup a xs _ h1 h2 =>
    exact ⟨a, xs, rfl, SqT.of (m.gr.gh _ _ h1), by rw [h2.length]; exact hn, h t G0 H0 κ τ G H σ xs hl m.pop h2 Q fun σ' G' H' l1 k1 _ m2 => q σ' G' H' l1 k1 m2⟩

/-! ### iterators -/
variable {te ta tb : TE} {ds es : List D}
theorem itd_list {K : PySem.W.Frag} {G : Hp} {a : Addr} {xs : List V} (h : G a = some (.lst xs)) (r : Reps G xs ds) : ItD (Itl K a) ds G where
  go := fun i G' H' s1 s2 hi => by
    obtain ⟨x, hx⟩ : ∃ x, xs[i]? = some x := ⟨xs[i]'(by rw [r.length]; exact hi), List.getElem?_eq_getElem _⟩
    exact ⟨xs, x, SqL.of (s2 _ _ (s1 _ _ h)), hx⟩
  stop := fun G' H' s1 s2 => ⟨xs, SqL.of (s2 _ _ (s1 _ _ h)), by rw [r.length]; exact Nat.le_refl _⟩
  yld := fun i d G' H' x H'' s1 s2 hd y => by
    obtain ⟨rfl, y⟩ := y
    obtain ⟨v, hv, w⟩ := r.get hd
    have e := y xs (SqL.of (s2 _ _ (s1 _ _ h)))
    rw [hv] at e; cases e
    exact ⟨G', Al.refl, w.up s1⟩
theorem itd_tup {K : PySem.W.Frag} {G : Hp} {a : Addr} {xs : List V} (h : G a = some (.tup xs)) (r : Reps G xs ds) : ItD (Itt K a) ds G where
  go := fun i G' H' s1 s2 hi => by
    obtain ⟨x, hx⟩ : ∃ x, xs[i]? = some x := ⟨xs[i]'(by rw [r.length]; exact hi), List.getElem?_eq_getElem _⟩
    exact ⟨xs, x, SqT.of (s2 _ _ (s1 _ _ h)), hx⟩
  stop := fun G' H' s1 s2 => ⟨xs, SqT.of (s2 _ _ (s1 _ _ h)), by rw [r.length]; exact Nat.le_refl _⟩
  yld := fun i d G' H' x H'' s1 s2 hd y => by
    obtain ⟨rfl, y⟩ := y
    obtain ⟨v, hv, w⟩ := r.get hd
    have e := y xs (SqT.of (s2 _ _ (s1 _ _ h)))
    rw [hv] at e; cases e
    exact ⟨G', Al.refl, w.up s1⟩
theorem itd_range {G : Hp} {lo : Int} {n : Nat} : ItD (Itr lo n) ((List.range n).map fun (i : Nat) => D.int (lo + (i : Int))) G where
  go := fun i G' H' _ _ hi => by
    have hi : i < n := by simpa using hi
    exact hi
  stop := fun G' H' _ _ => by show n ≤ _; simp
  yld := fun i d G' H' x H'' s1 s2 hd y => by
    obtain ⟨rfl, rfl⟩ := y
    have hi : i < n := by have := (List.getElem?_eq_some_iff.mp hd).1; simpa using this
    rw [List.getElem?_map, List.getElem?_range hi] at hd
    cases hd
    exact ⟨G', Al.refl, .int _⟩
/-- over a list, a tuple -/
theorem ei_list {K : PySem.W.Frag} (h : EvD te ρ ρ1 (.va (.lst ds))) : EvI (iList K te) ρ ρ1 ds := fun t G0 H0 κ τ G H σ hl m R q => by
  refine h t G0 H0 κ τ G H σ hl m _ fun v G1 H1 m1 => ?_
  have w := m1.last.rep
  cases w with
  | @lst a xs _ h1 h2 => exact ⟨a, rfl, ⟨xs, SqL.of (m1.gr.gh _ _ h1)⟩, q _ G1 H1 m1.pop (itd_list h1 h2)⟩
theorem ei_tup {K : PySem.W.Frag} (h : EvD te ρ ρ1 (.va (.tup ds))) : EvI (iTup K te) ρ ρ1 ds := fun t G0 H0 κ τ G H σ hl m R q => by
  refine h t G0 H0 κ τ G H σ hl m _ fun v G1 H1 m1 => ?_
  have w := m1.last.rep
  cases w with
  | @tup a xs _ h1 h2 => exact ⟨a, rfl, ⟨xs, SqT.of (m1.gr.gh _ _ h1)⟩, q _ G1 H1 m1.pop (itd_tup h1 h2)⟩
theorem ei_range1 {ts : TA} {n : Nat} (h : EvA ts ρ ρ1 [.va (.int (n : Int))]) (hn : n ≤ 100000) : EvI (iRng1 ts) ρ ρ1 ((List.range n).map fun (i : Nat) => D.int (i : Int)) := fun t G0 H0 κ τ G H σ hl m R q =>
  EvA.all (xs := [.int (n : Int)]) h hl m fun vs G1 H1 m1 rs => by
    cases rs with
    | cons r1 r2 =>
      cases r2
      cases r1
      refine ⟨(n : Int), rfl, by omega, by omega, q _ G1 H1 m1 ?_⟩
      have z := itd_range (G := G1) (lo := 0) (n := (n : Int).toNat)
      rw [Int.toNat_natCast] at z
      simpa using z
theorem ei_range2 {ts : TA} {a b : Nat} (h : EvA ts ρ ρ1 [.va (.int (a : Int)), .va (.int (b : Int))]) (ha : a ≤ 100000) (hb : b ≤ 100000) : EvI (iRng2 ts) ρ ρ1 ((List.range (b - a)).map fun (i : Nat) => D.int ((a + i : Nat) : Int)) := fun t G0 H0 κ τ G H σ hl m R q =>
  EvA.all (xs := [.int (a : Int), .int (b : Int)]) h hl m fun vs G1 H1 m1 rs => by
    cases rs with
    | cons r1 r2 =>
      cases r2 with
      | cons r2 r3 =>
        cases r3
        cases r1
        cases r2
        refine ⟨(a : Int), (b : Int), rfl, by omega, q _ G1 H1 m1 ?_⟩
        have z := itd_range (G := G1) (lo := (a : Int)) (n := ((b : Int) - (a : Int)).toNat)
        have e : ((b : Int) - (a : Int)).toNat = b - a := by omega
        rw [e] at z ⊢
        simpa using z
end

/-! ### comprehensions -/
section
variable {ρ ρ1 ρ2 : En} {te : TE} {tt : TT} {g : TG} {wi : TI} {ds : List D} {vs js : List Nat}
theorem wipe_eq {σ σ' : L2.St} (hl : σ'.length = σ.length) : ∀ {vs : List Nat}, (∀ k, k ∉ vs → σ'[k]? = σ[k]?) → wipe σ' vs = wipe σ vs := fun {vs} h => by
  have key : ∀ (vs : List Nat) (σ : L2.St) (k : Nat), (wipe σ vs)[k]? = if k ∈ vs ∧ k < σ.length then some none else σ[k]? := by
    intro vs σ
    induction vs with
    | nil => intro k; rw [if_neg (by simp)]; rfl
    | cons v vs ih =>
      intro k
      show ((wipe σ vs).set v none)[k]? = _
      by_cases hk : v = k
      · subst hk
        by_cases hv : v < σ.length
        · rw [List.getElem?_set_self (by rw [wipe_length]; exact hv), if_pos ⟨by simp, hv⟩]
        · rw [List.getElem?_eq_none (by simp [wipe_length]; omega), if_neg (fun z => hv z.2), List.getElem?_eq_none (by omega)]
      · rw [List.getElem?_set_ne hk, ih k]
        have e : (k ∈ v :: vs ∧ k < σ.length) ↔ (k ∈ vs ∧ k < σ.length) := by
          simp only [List.mem_cons]
          constructor
          · rintro ⟨h1 | h1, h2⟩
            · exact absurd h1.symm hk
            · exact ⟨h1, h2⟩
          · rintro ⟨h1, h2⟩; exact ⟨.inr h1, h2⟩
        simp only [e]
  apply List.ext_getElem?
  intro k
  rw [key, key, hl]
  by_cases hk : k ∈ vs
  · by_cases h2 : k < σ.length
    · rw [if_pos ⟨hk, h2⟩, if_pos ⟨hk, h2⟩]
    · rw [if_neg (fun z => h2 z.2), if_neg (fun z => h2 z.2), List.getElem?_eq_none (by omega), List.getElem?_eq_none (by omega)]
  · rw [if_neg (fun z => hk z.1), if_neg (fun z => hk z.1)]
    exact h k hk
/-- the state as an entry of its own -/
theorem Mt.based {t : Addr} {G0 H0 G H : Hp} {ρ : En} {σ : L2.St} (m : Mt t G0 H0 ρ G H σ) : ∃ H1, Mt t G H1 ρ G H σ ∧ (∀ G' H', Gr G H1 G' H' → Gr G0 H0 G' H') ∧ ∀ ρ' G' H' σ', Mt t G H1 ρ' G' H' σ' → Mt t G0 H0 ρ' G' H' σ' ∧ Same G G' := by
  have free : ∀ {a}, Own t ρ σ a → G a = none ∧ H0 a = none ∧ ∃ o, H a = some o := fun {a} h => m.own_free h
  have s0 : Same H0 (subO (Own t ρ σ) H) := fun b x e => by
    have hb : ¬ Own t ρ σ b := fun z => by rw [(free z).2.1] at e; cases e
    rw [subO_out hb]; exact m.gr.h b x e
  have up : ∀ G' H', Gr G (subO (Own t ρ σ) H) G' H' → Gr G0 H0 G' H' := fun G' H' g => ⟨m.gr.g.trans g.g, s0.trans g.h, g.gh, fun b h1 h2 => g.n b (m.gr.n b h1 h2) (by
    cases e : H0 b with
    | none => exact absurd e h2
    | some o => rw [s0 b o e]; exact fun z => nomatch z)⟩
  refine ⟨subO (Own t ρ σ) H, ⟨⟨Same.refl G, fun b x e => ?_, m.gr.gh, fun _ h _ => h⟩, m.len, fun k r v h1 h2 => ?_, m.nd⟩, up, fun ρ' G' H' σ' m' => ⟨⟨up _ _ m'.gr, m'.len, fun k r v h1 h2 => ?_, m'.nd⟩, m'.gr.g⟩⟩
  · by_cases hb : Own t ρ σ b
    · rw [subO_in hb] at e; cases e
    · rw [subO_out hb] at e; exact e
  · have q := m.ok k r v h1 h2
    cases r with
    | un => exact True.intro
    | va d => exact q
    | ow d => obtain ⟨a, rfl, w1, w2, w3⟩ := q; exact ⟨a, rfl, w1, subO_in ⟨k, _, _, h1, h2, rfl⟩, w3⟩
    | ti d => obtain ⟨rfl, w1, w2, w3⟩ := q; exact ⟨rfl, w1, subO_in ⟨k, _, _, h1, h2, rfl⟩, w3⟩
  · have q := m'.ok k r v h1 h2
    have fr : ∀ {a : Addr}, subO (Own t ρ σ) H a = none → H0 a = none := fun {a} h => by
      cases e : H0 a with
      | none => rfl
      | some o => rw [s0 a o e] at h; cases h
    cases r with
    | un => exact True.intro
    | va d => exact q
    | ow d => obtain ⟨a, rfl, w1, w2, w3⟩ := q; exact ⟨a, rfl, w1, fr w2, w3⟩
    | ti d => obtain ⟨rfl, w1, w2, w3⟩ := q; exact ⟨rfl, w1, fr w2, w3⟩
theorem Mt.unwipe {t : Addr} {G0 H0 G H : Hp} {ρ κ : En} {σ τ : L2.St} {vs : List Nat} (m : Mt t G0 H0 (wipeE ρ vs ++ κ) G H (L2.wipe σ vs ++ τ)) (hl : σ.length = ρ.length) : Mt t G0 H0 (wipeE ρ vs ++ κ) G H (σ ++ τ) := by
  have ht : τ.length = κ.length := by have := m.len; simp [wipe_length, wipeE_length] at this; omega
  refine m.sub id (fun _ _ _ _ e => e) (by simp [wipeE_length, hl, ht]) fun k r v h1 h2 => ?_
  by_cases hk : k < ρ.length
  · rw [List.getElem?_append_left (by rw [wipeE_length]; exact hk)] at h1
    rw [List.getElem?_append_left (by rw [hl]; exact hk)] at h2
    have key : ∀ (vs : List Nat) (r : Sl), (wipeE ρ vs)[k]? = some r → r = .un ∨ (L2.wipe σ vs)[k]? = σ[k]? := by
      intro vs
      induction vs with
      | nil => intro r _; exact .inr rfl
      | cons x vs ih =>
        intro r h
        have h : ((wipeE ρ vs).set x .un)[k]? = some r := h
        by_cases hx : x = k
        · subst hx
          rw [List.getElem?_set_self (by rw [wipeE_length]; exact hk)] at h
          cases h; exact .inl rfl
        · rw [List.getElem?_set_ne hx] at h
          rcases ih r h with e | e
          · exact .inl e
          · refine .inr ?_
            show ((L2.wipe σ vs).set x none)[k]? = _
            rw [List.getElem?_set_ne hx]; exact e
    rcases key vs r h1 with e | e
    · exact .inl e
    · refine .inr ⟨?_, ?_⟩
      · rw [id, List.getElem?_append_left (by rw [wipeE_length]; exact hk)]; exact h1
      · rw [id, List.getElem?_append_left (by rw [wipe_length, hl]; exact hk), e]; exact h2
  · rw [List.getElem?_append_right (by rw [wipeE_length]; omega), wipeE_length] at h1
    rw [List.getElem?_append_right (by omega)] at h2
    refine .inr ⟨?_, ?_⟩
    · rw [id, List.getElem?_append_right (by rw [wipeE_length]; omega), wipeE_length]; exact h1
    · rw [id, List.getElem?_append_right (by rw [wipe_length]; omega), wipe_length]; exact h2
/-- what a comprehension has made behind i turns -/
def made (b : Nat → Bool) (e : Nat → D) (i : Nat) : List D := ((List.range i).filter b).map e
theorem made_succ {b : Nat → Bool} {e : Nat → D} {i : Nat} : made b e (i + 1) = if b i = true then made b e i ++ [e i] else made b e i := by
  unfold made
  rw [List.range_succ, List.filter_append, List.map_append]
  by_cases h : b i = true
  · simp [h]
  · simp [h]
theorem made_len (b : Nat → Bool) (e : Nat → D) (i : Nat) : (made b e i).length ≤ i := by
  unfold made
  rw [List.length_map]
  have h := List.length_filter_le b (List.range i)
  rwa [List.length_range] at h
/-- any comprehension: R i the slots ahead of turn i -/
theorem ev_lc (hi : EvI wi ρ ρ1 ds) (R : Nat → En) (b : Nat → Bool) (e : Nat → D) (h0 : R 0 = ρ1) (hz : ds.length ≤ 100000) (hR : ∀ i, (R i).length = ρ.length)
    (turn : ∀ i d, ds[i]? = some d → ∃ ρa ρb ρc, EvG g js (.va d) (wipeE (R i) vs) ρa ∧ EvT tt ρa ρb (b i) ∧ (b i = true → EvD te ρb ρc (.va (e i)) ∧ wipeE ρc vs = wipeE (R (i + 1)) vs) ∧ (b i = false → wipeE ρb vs = wipeE (R (i + 1)) vs))
    (hj : ∀ k ∈ js, k ∈ vs) : EvD (tLc wi g tt te vs) ρ (wipeE (R ds.length) vs) (.ow (.lst (made b e ds.length))) := fun t G0 H0 κ τ G H σ hl m Q q => by
  refine hi t G0 H0 κ τ G H σ hl m _ fun J G1 H1 m1 it => ?_
  intro Da hD
  have ht := m.len2 (ρ' := ρ) hl
  have hl1 : σ.length = ρ1.length := m1.len4 ht
  have lw : ∀ i, (wipe σ vs).length = (wipeE (R i) vs).length := fun i => by rw [wipe_length, wipeE_length, hR, hl]
  -- ahead of turn i
  let W : Nat → Hp → Prop := fun i H' => ∃ G', Same G1 G' ∧ Mt t G0 H0 (wipeE (R i) vs ++ (κ ++ [.ow (.lst (made b e i))])) G' H' (wipe σ vs ++ (τ ++ [some (.ref Da)]))
  refine ⟨fun i n H' => n = ds.length - i ∧ i ≤ ds.length ∧ W i H', ⟨_, rfl, Nat.zero_le _, G1, Same.refl G1, ?_⟩, fun i n H' hw => ?_⟩
  · have m2 := m1.wipe hl1 vs
    have m3 := m2.pushOw (d := .lst []) hD ⟨[], upd_same, .nil⟩
    rw [h0]
    rw [List.append_assoc, List.append_assoc] at m3
    exact m3
  · obtain ⟨rfl, hin, G', s1, mw⟩ := hw
    by_cases hlt : i < ds.length
    · refine .inr ⟨it.go i G' H' s1 mw.gr.gh hlt, fun H'' => W (i + 1) H'', fun H'' w => ⟨ds.length - (i + 1), by omega, rfl, hlt, w⟩, fun x H2 y => ?_⟩
      obtain ⟨G2, al, rx⟩ := it.yld i (ds[i]) G' H' x H2 s1 mw.gr.gh (List.getElem?_eq_getElem hlt) y
      have s2 : Same G1 G2 := s1.trans (al.grows mw.gr.gh)
      obtain ⟨ρa, ρb, ρc, hg, htt, hte, hf⟩ := turn i (ds[i]) (List.getElem?_eq_getElem hlt)
      obtain ⟨Hb, mb, _, back⟩ := ((mw.al al).push rx).based
      have lk : (τ ++ [some (V.ref Da)]).length = (κ ++ [Sl.ow (.lst (made b e i))]).length := by simp [ht]
      refine hg t _ _ _ _ G2 H2 (wipe σ vs) x (lw i) mb _ fun σ3 G3 H3 l3 k3 m3 => ?_
      have hw3 : wipe σ3 vs = wipe (wipe σ vs) vs := wipe_eq l3 fun k hk => k3 k fun z => hk (hj k z)
      have hww : wipe (wipe σ vs) vs = wipe σ vs := wipe_eq (wipe_length _ _) fun k hk => wipe_out hk
      have hl3 : σ3.length = ρa.length := m3.len4 lk
      refine ⟨hw3.trans hww, ?_⟩
      refine htt t _ _ _ _ G3 H3 σ3 hl3 m3 _ fun G4 H4 m4 => ?_
      have hl4 : σ3.length = ρb.length := m4.len4 lk
      -- the turn's end
      have fin : ∀ {ρz : En} {Gz Hz : Hp}, Mt t G2 Hb (ρz ++ (κ ++ [.ow (.lst (made b e (i + 1)))])) Gz Hz (σ3 ++ (τ ++ [some (.ref Da)])) → wipeE ρz vs = wipeE (R (i + 1)) vs → W (i + 1) Hz := fun {ρz Gz Hz} mz ez => by
        have lz : σ3.length = ρz.length := mz.len4 (by simp [ht])
        have m5 := mz.wipe lz vs
        rw [hw3, hww, ez] at m5
        obtain ⟨m6, s6⟩ := back _ _ _ _ m5
        exact ⟨Gz, s2.trans s6, m6⟩
      cases hb : b i with
      | false =>
        refine fin (Gz := G4) (ρz := ρb) ?_ (hf hb)
        rw [made_succ, if_neg (by rw [hb]; exact Bool.false_ne_true)]
        exact m4
      | true =>
        obtain ⟨hde, hwe⟩ := hte hb
        refine hde t _ _ _ _ G4 H4 σ3 hl4 m4 _ fun u G5 H5 m5 => ?_
        have ru := m5.last.rep
        have m5' := m5.pop
        have hl5 : σ3.length = ρc.length := m5'.len4 lk
        -- the list so far
        have hk : (ρc ++ (κ ++ [Sl.ow (.lst (made b e i))]))[ρc.length + κ.length]? = some (.ow (.lst (made b e i))) := by simp
        have hv : (σ3 ++ (τ ++ [some (V.ref Da)]))[ρc.length + κ.length]? = some (some (.ref Da)) := by rw [← hl5, ← ht]; simp
        obtain ⟨a, e1, ga, h0a, acc, hacc, racc⟩ := m5'.ow hk
        rw [hv] at e1; cases e1
        have la := racc.length
        have lm := made_len b e i
        refine ⟨acc, hacc, small_lt (by omega), ?_⟩
        have m6 := m5'.writeOw (o := .lst (acc ++ [u])) (d' := .lst (made b e i ++ [e i])) hk hv ⟨acc ++ [u], upd_same, racc.append (.cons ru .nil)⟩
        refine fin (Gz := G5) (ρz := ρc) ?_ hwe
        rw [made_succ, if_pos hb]
        have es : (ρc ++ (κ ++ [Sl.ow (.lst (made b e i))])).set (ρc.length + κ.length) (.ow (.lst (made b e i ++ [e i]))) = ρc ++ (κ ++ [Sl.ow (.lst (made b e i ++ [e i]))]) := by
          rw [List.set_append_right _ _ (by omega), Nat.add_sub_cancel_left, List.set_append_right _ _ (Nat.le_refl _), Nat.sub_self]
          rfl
        rw [es] at m6
        exact m6
    · have ei : i = ds.length := by omega
      subst ei
      refine .inl ⟨it.stop G' H' s1 mw.gr.gh, ?_⟩
      refine q _ G' H' ?_
      have m7 := mw.unwipe (by rw [hR, hl])
      rw [← List.append_assoc, ← List.append_assoc] at m7
      exact m7
/-- a comprehension that only reads: the items by x, the ones kept, what is made of each -/
theorem ev_lcP {α : Type} (xs : List α) (enc : α → D) (p : α → Bool) (f : α → D) (ρx : α → En) (hi : EvI wi ρ ρ1 (xs.map enc)) (hz : xs.length ≤ 100000) (hl : ρ1.length = ρ.length)
    (hg : ∀ x, x ∈ xs → EvG g js (.va (enc x)) (wipeE ρ1 vs) (ρx x)) (ht : ∀ x, x ∈ xs → EvT tt (ρx x) (ρx x) (p x)) (he : ∀ x, x ∈ xs → p x = true → EvD te (ρx x) (ρx x) (.va (f x)))
    (hw : ∀ x, x ∈ xs → wipeE (ρx x) vs = wipeE ρ1 vs) (hj : ∀ k ∈ js, k ∈ vs) : EvD (tLc wi g tt te vs) ρ (wipeE ρ1 vs) (.ow (.lst ((xs.filter p).map f))) := by
  have key : made (fun i => (xs[i]?.map p).getD false) (fun i => (xs[i]?.map f).getD .non) (xs.map enc).length = (xs.filter p).map f := by
    have aux : ∀ n, n ≤ xs.length → made (fun i => (xs[i]?.map p).getD false) (fun i => (xs[i]?.map f).getD .non) n = ((xs.take n).filter p).map f := by
      intro n
      induction n with
      | zero => intro _; rfl
      | succ n ih =>
        intro hn
        have hx : xs[n]? = some xs[n] := List.getElem?_eq_getElem (by omega)
        rw [made_succ, ih (by omega), List.take_add_one, hx]
        show (if p xs[n] = true then _ else _) = _
        rw [List.filter_append, List.map_append]
        by_cases hp : p xs[n] = true
        · rw [if_pos hp]
          simp [hp]
        · rw [if_neg hp]
          simp [hp]
    rw [List.length_map, aux _ (Nat.le_refl _), List.take_length]
  have z := ev_lc (te := te) (tt := tt) (g := g) (js := js) (vs := vs) hi (fun _ => ρ1) (fun i => (xs[i]?.map p).getD false) (fun i => (xs[i]?.map f).getD .non) rfl (by simpa using hz) (fun _ => hl) (fun i d hd => ?_) hj
  · rw [key] at z; exact z
  · rw [List.getElem?_map] at hd
    cases hx : xs[i]? with
    | none => rw [hx] at hd; cases hd
    | some x =>
      rw [hx] at hd
      cases hd
      have hm : x ∈ xs := List.mem_of_getElem? hx
      exact ⟨ρx x, ρx x, ρx x, hg x hm, ht x hm, fun hp => ⟨he x hm hp, hw x hm⟩, fun _ => hw x hm⟩
end
end DL
end

section
set_option maxRecDepth 100000
set_option maxHeartbeats 4000000
/-! Statements by data. -/
namespace DL
open PySem PySem.Spec PyProof.Rows L2

/-- what is wanted behind a statement: going on, break, continue, a return, a raise -/
structure Po where
  nx : En → Prop
  bk : En → Prop := fun _ => False
  ct : En → Prop := fun _ => False
  rt : D → En → Prop := fun _ _ => False
  rz : Prop := False

/-- the ends of a reading serve what is wanted -/
structure Serve (C : Addr) (E : XK) (t : Addr) (G0 H0 : Hp) (po : Po) (Ds : Ends) : Prop where
  nx : ∀ ρ G H σ, po.nx ρ → Mt t G0 H0 ρ G H σ → Ds.nx σ H
  bk : ∀ ρ G H σ, po.bk ρ → Mt t G0 H0 ρ G H σ → Ds.bk σ H
  ct : ∀ ρ G H σ, po.ct ρ → Mt t G0 H0 ρ G H σ → Ds.ct σ H
  rt : ∀ d v ρ G H σ, po.rt d ρ → Mt t G0 H0 (ρ ++ [.va d]) G H (σ ++ [some v]) → Ds.rt v H
  rz : po.rz → ∀ G H, Gr G0 H0 G H → E (.ref C) none H
/-- a statement's reading, from the slots ρ -/
def Run (C : Addr) (E : XK) (ts : TS) (ρ : En) (po : Po) : Prop :=
  ∀ (t : Addr) (G0 H0 G H : Hp) (σ : L2.St), Mt t G0 H0 ρ G H σ → ∀ Ds : Ends, Serve C E t G0 H0 po Ds → ts Ds σ H
section
variable {C : Addr} {E : XK} {ρ ρ1 ρ2 : En} {po : Po} {t1 t2 : TS} {te ta : TE} {r : Sl} {d : D} {b : Bool} {tc : TT} {js : List Nat}
theorem Serve.next {t : Addr} {G0 H0 : Hp} {Ds : Ends} (s : Serve C E t G0 H0 po Ds) {nx : En → Prop} {f : L2.St → Hp → Prop} (h : ∀ ρ G H σ, nx ρ → Mt t G0 H0 ρ G H σ → f σ H) : Serve C E t G0 H0 { po with nx := nx } { Ds with nx := f } := ⟨h, s.bk, s.ct, s.rt, s.rz⟩
theorem run_seq (Mid : En → Prop) (h1 : Run C E t1 ρ { po with nx := Mid }) (h2 : ∀ ρ', Mid ρ' → Run C E t2 ρ' po) : Run C E (tSeq t1 t2) ρ po := fun t G0 H0 G H σ m Ds s =>
  h1 t G0 H0 G H σ m _ (s.next fun ρ' G' H' σ' hm m' => h2 ρ' hm t G0 H0 G' H' σ' m' Ds s)
/-- .. the first one goes on to just ρ1 -/
theorem run_seq1 (h1 : Run C E t1 ρ { po with nx := fun ρ' => ρ' = ρ1 }) (h2 : Run C E t2 ρ1 po) : Run C E (tSeq t1 t2) ρ po := run_seq _ h1 fun ρ' e => e ▸ h2
theorem run_next (h : po.nx ρ) : Run C E tNext ρ po := fun t G0 H0 G H σ m Ds s => s.nx ρ G H σ h m
theorem run_break (h : po.bk ρ) : Run C E tBreak ρ po := fun t G0 H0 G H σ m Ds s => s.bk ρ G H σ h m
theorem run_cont (h : po.ct ρ) : Run C E tCont ρ po := fun t G0 H0 G H σ m Ds s => s.ct ρ G H σ h m
/-- evaluated with nothing pending -/
theorem EvD.go (h : EvD te ρ ρ1 r) {t : Addr} {G0 H0 G H : Hp} {σ : L2.St} (m : Mt t G0 H0 ρ G H σ) {Q : VK} (q : ∀ v G' H', Mt t G0 H0 (ρ1 ++ [r]) G' H' (σ ++ [some v]) → Q v H') : te σ H Q :=
  h t G0 H0 [] [] G H σ m.len m.nil Q fun v G' H' m' => q v G' H' (by simpa using m')
theorem EvT.go (h : EvT tc ρ ρ1 b) {t : Addr} {G0 H0 G H : Hp} {σ : L2.St} (m : Mt t G0 H0 ρ G H σ) {Q : Bool → Hp → Prop} (q : ∀ G' H', Mt t G0 H0 ρ1 G' H' σ → Q b H') : tc σ H Q :=
  h t G0 H0 [] [] G H σ m.len m.nil Q fun G' H' m' => q G' H' (by simpa using m')
theorem run_asg {g : TG} (h : EvD te ρ ρ1 r) (hg : EvG g js r ρ1 ρ2) (hn : po.nx ρ2) : Run C E (tAsg te g) ρ po := fun t G0 H0 G H σ m Ds s =>
  h.go m fun v G' H' m' => by
    have hl : σ.length = ρ1.length := by have := m'.len; simpa using this
    refine hg t G0 H0 [] [] G' H' σ v hl (by simpa using m') _ fun σ2 G2 H2 _ _ m2 => s.nx ρ2 G2 H2 σ2 hn (by simpa using m2)
theorem run_set {i : Nat} (h : EvD te ρ ρ1 r) (hn : po.nx (ρ1.set i r)) : Run C E (tAsg te (gName i)) ρ po := run_asg h (eg_name i) hn
theorem run_drop (h : EvD te ρ ρ1 r) (hn : po.nx ρ1) : Run C E (tDrop te) ρ po := fun t G0 H0 G H σ m Ds s =>
  h.go m fun v G' H' m' => s.nx ρ1 G' H' σ hn m'.pop
theorem run_ret (h : EvD te ρ ρ1 (.va d)) (hn : po.rt d ρ1) : Run C E (tRet te) ρ po := fun t G0 H0 G H σ m Ds s =>
  h.go m fun v G' H' m' => s.rt d v ρ1 G' H' σ hn m'
theorem run_retN (hn : po.rt .non ρ) : Run C E tRetN ρ po := fun t G0 H0 G H σ m Ds s => s.rt .non .non ρ G H σ hn (m.push .non)
theorem run_if (h : EvT tc ρ ρ1 b) (h1 : b = true → Run C E t1 ρ1 po) (h2 : b = false → Run C E t2 ρ1 po) : Run C E (tIfS tc t1 t2) ρ po := fun t G0 H0 G H σ m Ds s =>
  h.go m fun G' H' m' => by
    cases b with
    | true => exact h1 rfl t G0 H0 G' H' σ m' Ds s
    | false => exact h2 rfl t G0 H0 G' H' σ m' Ds s
/-- a, b = x, y: the pending values are stored -/
theorem run_par {i j : Nat} {ts : TA} {r1 r2 : Sl} (h : EvA ts ρ ρ1 [r1, r2]) (hn : po.nx ((ρ1.set i r1).set j r2)) (hij : i ≠ j) : Run C E (tPar i j ts) ρ po := fun t G0 H0 G H σ m Ds s =>
  h t G0 H0 [] [] G H σ m.len m.nil _ fun vs G' H' lv m' => by
    match vs, lv with
    | [v, w], _ =>
      refine ⟨v, w, rfl, ?_⟩
      have m' : Mt t G0 H0 (ρ1 ++ [r1] ++ [r2]) G' H' (σ ++ [some v] ++ [some w]) := by simpa using m'
      have hl : σ.length = ρ1.length := by have := m'.len; simp at this; omega
      have m2 := m'.store hl j
      have m3 := (show Mt t G0 H0 (ρ1.set j r2 ++ [] ++ [r1]) G' H' (σ.set j (some w) ++ [] ++ [some v]) by simpa using m2).store (by simp [hl]) i
      rw [List.append_nil, List.append_nil, List.set_comm _ _ (Ne.symm hij), List.set_comm _ _ (Ne.symm hij)] at m3
      exact s.nx _ G' H' _ hn m3
theorem run_par3 {i j l : Nat} {ts : TA} {r1 r2 r3 : Sl} (h : EvA ts ρ ρ1 [r1, r2, r3]) (hn : po.nx (((ρ1.set i r1).set j r2).set l r3)) (hij : i ≠ j) (hil : i ≠ l) (hjl : j ≠ l) : Run C E (tPar3 i j l ts) ρ po := fun t G0 H0 G H σ m Ds s =>
  h t G0 H0 [] [] G H σ m.len m.nil _ fun vs G' H' lv m' => by
    match vs, lv with
    | [v, w, x], _ =>
      refine ⟨v, w, x, rfl, ?_⟩
      have m' : Mt t G0 H0 (ρ1 ++ [r1, r2] ++ [r3]) G' H' (σ ++ [some v, some w] ++ [some x]) := by simpa using m'
      have hl : σ.length = ρ1.length := by have := m'.len; simp at this; omega
      have m2 := m'.store hl l
      have m3 := (show Mt t G0 H0 (ρ1.set l r3 ++ [r1] ++ [r2]) G' H' (σ.set l (some x) ++ [some v] ++ [some w]) by simpa using m2).store (by simp [hl]) j
      have m4 := (show Mt t G0 H0 ((ρ1.set l r3).set j r2 ++ [] ++ [r1]) G' H' ((σ.set l (some x)).set j (some w) ++ [] ++ [some v]) by simpa using m3).store (by simp [hl]) i
      rw [List.append_nil, List.append_nil] at m4
      have e1 : ∀ {α : Type} (k : List α) (a b c : α), ((k.set l c).set j b).set i a = ((k.set i a).set j b).set l c := fun k a b c => by
        rw [List.set_comm _ _ (Ne.symm hjl), List.set_comm _ _ (Ne.symm hil), List.set_comm _ _ (Ne.symm hij)]
      rw [e1, e1] at m4
      exact s.nx _ G' H' _ hn m4

/-! ### loops -/
variable {wi : TI} {g : TG} {ds : List D}
theorem run_for (hi : EvI wi ρ ρ1 ds) (Inv : Nat → En → Prop) (h0 : Inv 0 ρ1)
    (turn : ∀ i d ρ2, ds[i]? = some d → Inv i ρ2 → ∃ js ρ3, EvG g js (.va d) ρ2 ρ3 ∧ Run C E t1 ρ3 { po with nx := Inv (i + 1), ct := Inv (i + 1), bk := po.nx }) (hd : ∀ ρ2, Inv ds.length ρ2 → po.nx ρ2) : Run C E (tFor wi g t1) ρ po := fun t G0 H0 G H σ m Ds s => by
  refine hi t G0 H0 [] [] G H σ m.len m.nil _ fun J G1 H1 m1 it => ?_
  let W : Nat → L2.St → Hp → Prop := fun i σ' H' => ∃ ρ2 G', Inv i ρ2 ∧ Same G1 G' ∧ Mt t G0 H0 ρ2 G' H' σ'
  refine ⟨fun i n σ' H' => n = ds.length - i ∧ i ≤ ds.length ∧ W i σ' H', ⟨_, rfl, Nat.zero_le _, ρ1, G1, h0, Same.refl G1, by simpa using m1⟩, fun i n σ' H' hw => ?_⟩
  obtain ⟨rfl, hin, ρ2, G', hI, s1, mw⟩ := hw
  by_cases hlt : i < ds.length
  · refine .inr ⟨it.go i G' H' s1 mw.gr.gh hlt, W (i + 1), fun σ'' H'' w => ⟨ds.length - (i + 1), by omega, rfl, hlt, w⟩, fun x H2 y => ?_⟩
    obtain ⟨G2, al, rx⟩ := it.yld i (ds[i]) G' H' x H2 s1 mw.gr.gh (List.getElem?_eq_getElem hlt) y
    have s2 : Same G1 G2 := s1.trans (al.grows mw.gr.gh)
    obtain ⟨js, ρ3, hg, hr⟩ := turn i (ds[i]) ρ2 (List.getElem?_eq_getElem hlt) hI
    obtain ⟨Hb, mb, up, back⟩ := ((mw.al al).push rx).based
    refine hg t _ _ [] [] G2 H2 σ' x mw.len (by simpa using mb) _ fun σ3 G3 H3 _ _ m3 => ?_
    have keep : ∀ ρ' G' H' σ', Inv (i + 1) ρ' → Mt t G2 Hb ρ' G' H' σ' → W (i + 1) σ' H' := fun ρ' G' H' σ' hI' m' => by
      obtain ⟨m6, s6⟩ := back _ _ _ _ m'
      exact ⟨ρ', G', hI', s2.trans s6, m6⟩
    refine hr t _ _ G3 H3 σ3 (by simpa using m3) _ ⟨keep, fun ρ' G' H' σ' h' m' => s.nx ρ' G' H' σ' h' (back _ _ _ _ m').1, keep, fun d v ρ' G' H' σ' h' m' => s.rt d v ρ' G' H' σ' h' (back _ _ _ _ m').1, fun hz G' H' g' => s.rz hz G' H' (up _ _ g')⟩
  · have ei : i = ds.length := by omega
    subst ei
    exact .inl ⟨it.stop G' H' s1 mw.gr.gh, s.nx ρ2 G' H' σ' (hd ρ2 hI) mw⟩
theorem run_while (Inv : Nat → En → Prop) (n0 : Nat) (h0 : Inv n0 ρ)
    (turn : ∀ n ρ2, Inv n ρ2 → ∃ b ρ3, EvT tc ρ2 ρ3 b ∧ (b = true → Run C E t1 ρ3 { po with nx := fun ρ' => ∃ n', n' < n ∧ Inv n' ρ', ct := fun ρ' => ∃ n', n' < n ∧ Inv n' ρ', bk := po.nx }) ∧ (b = false → po.nx ρ3)) : Run C E (tWhile tc t1) ρ po := fun t G0 H0 G H σ m Ds s => by
  refine ⟨fun n σ' H' => ∃ ρ2 G', Inv n ρ2 ∧ Mt t G0 H0 ρ2 G' H' σ', ⟨n0, ρ, G, h0, m⟩, fun n σ' H' hw => ?_⟩
  obtain ⟨ρ2, G', hI, m'⟩ := hw
  obtain ⟨b, ρ3, hb, h1, h2⟩ := turn n ρ2 hI
  refine hb.go m' fun G2 H2 m2 => ?_
  cases b with
  | false => exact s.nx ρ3 G2 H2 σ' (h2 rfl) m2
  | true =>
    refine ⟨fun σ'' H'' => ∃ n', n' < n ∧ ∃ ρ2 G', Inv n' ρ2 ∧ Mt t G0 H0 ρ2 G' H'' σ'', fun σ'' H'' z => z, ?_⟩
    have keep : ∀ ρ' G' H' σ', (∃ n', n' < n ∧ Inv n' ρ') → Mt t G0 H0 ρ' G' H' σ' → ∃ n', n' < n ∧ ∃ ρ2 G', Inv n' ρ2 ∧ Mt t G0 H0 ρ2 G' H' σ' := fun ρ' G' H' σ' ⟨n', l, i⟩ m' => ⟨n', l, ρ', G', i, m'⟩
    exact h1 rfl t G0 H0 G2 H2 σ' m2 _ ⟨keep, s.nx, keep, s.rt, s.rz⟩
end
end DL
end

section
set_option maxRecDepth 100000
set_option maxHeartbeats 4000000
/-! Defs by data: promises, calls, raising. -/
namespace DL
open PySem PySem.Spec PyProof.Rows L2

/-- a def's promise: rel ds (some d): it hands back d; rel ds none: it raises the own error at C. n parameters -/
def spD (C : Addr) (n : Nat) (rel : List D → Option D → Prop) : Sp := fun vs H Q E => ∃ (G : Hp) (ds : List D) (r : Option D), Same G H ∧ Reps G vs ds ∧ ds.length = n ∧ rel ds r ∧
  (∀ d, r = some d → ∀ v G' H', Gr G H G' H' → Rep G' v d → Q v H') ∧ (r = none → ∀ G' H', Gr G H G' H' → E (.ref C) none H')
/-- the heap less one address -/
def less (t : Addr) (H : Hp) : Hp := fun b => if b = t then none else H b
/-- a def that changes the list handed in as its first argument: st before, st' behind -/
def spT (n : Nat) (rel : D → List D → D → D → Prop) : Sp := fun vs H Q _ => ∃ (t : Addr) (G : Hp) (us : List V) (ds : List D) (st st' d : D), vs = .ref t :: us ∧ Same G H ∧ G t = none ∧ Cont G H t st ∧ Reps G us ds ∧ ds.length = n ∧ rel st ds st' d ∧
  ∀ v G' H', Gr G (less t H) G' H' → G' t = none → Cont G' H' t st' → Rep G' v d → Q v H'
theorem spD_len {C : Addr} {n : Nat} {rel : List D → Option D → Prop} {ps : List Str} (h : ps.length = n) : ∀ vs H Q E, spD C n rel vs H Q E → vs.length = ps.length := fun vs H Q E ⟨G, ds, r, _, rs, hn, _⟩ => by rw [rs.length, hn, h]
theorem spT_len {n : Nat} {rel : D → List D → D → D → Prop} {ps : List Str} (h : ps.length = n + 1) : ∀ vs H Q E, spT n rel vs H Q E → vs.length = ps.length := fun vs H Q E ⟨t, G, us, ds, st, st', d, e, _, _, _, rs, hn, _⟩ => by rw [e, List.length_cons, rs.length, hn, h]

/-- what a def's body is to reach -/
abbrev PoF (r : Option D) : Po := { nx := fun _ => r = some .non, rt := fun d _ => r = some d, rz := r = none }
abbrev PoT (st' d : D) : Po := { nx := fun ρ => d = .non ∧ ρ[0]? = some (.ti st'), rt := fun d' ρ => d' = d ∧ ρ[0]? = some (.ti st') }
section
variable {C : Addr} {E : XK} {n : Nat} {rel : List D → Option D → Prop} {N : List Str} {vs : List V} {H : Hp} {Q : VK}
theorem start_mt {t : Addr} {G : Hp} {ds : List D} (sg : Same G H) (rs : Reps G vs ds) (hN : vs.length ≤ N.length) : Mt t G H (ds.map Sl.va ++ List.replicate (N.length - vs.length) .un) G H (L2.start N vs) := by
  unfold L2.start
  refine ⟨Gr.refl sg, by simp [rs.length], fun i r v h1 h2 => ?_, fun i j r s v u a hij h1 h2 h3 h4 e1 e2 => ?_⟩
  · by_cases hi : i < ds.length
    · rw [List.getElem?_append_left (by simpa using hi), List.getElem?_map] at h1
      rw [List.getElem?_append_left (by rw [List.length_map, rs.length]; exact hi), List.getElem?_map] at h2
      rw [List.getElem?_eq_getElem hi] at h1
      cases h1
      obtain ⟨w, hw, rw'⟩ := rs.get (List.getElem?_eq_getElem hi)
      rw [hw] at h2; cases h2
      exact ⟨w, rfl, rw'⟩
    · rw [List.getElem?_append_right (by simpa using hi), List.getElem?_replicate] at h1
      split at h1 <;> cases h1
      exact True.intro
  · by_cases hi : i < ds.length
    · rw [List.getElem?_append_left (by simpa using hi), List.getElem?_map, List.getElem?_eq_getElem hi] at h1
      cases h1; cases e1
    · rw [List.getElem?_append_right (by simpa using hi), List.getElem?_replicate] at h1
      split at h1 <;> cases h1
      cases e1
/-- a body's reading, from the promise -/
theorem body_run {ts : TS} {G : Hp} {ds : List D} {r : Option D} (sg : Same G H) (rs : Reps G vs ds) (hN : vs.length ≤ N.length) (hQ : ∀ d, r = some d → ∀ v G' H', Gr G H G' H' → Rep G' v d → Q v H')
    (hE : r = none → ∀ G' H', Gr G H G' H' → E (.ref C) none H') (h : Run C E ts (ds.map Sl.va ++ List.replicate (N.length - vs.length) .un) (PoF r)) : ts { nx := fun _ H' => Q .non H', rt := Q } (L2.start N vs) H :=
  h 0 G H G H _ (start_mt sg rs hN) _ ⟨fun ρ G' H' σ e m => hQ _ e .non G' H' m.gr .non, fun _ _ _ _ z => z.elim, fun _ _ _ _ z => z.elim, fun d v ρ G' H' σ e m => hQ d e v G' H' m.gr m.last.rep, hE⟩
theorem startT_mt {t : Addr} {G : Hp} {ds : List D} {st : D} (sg : Same G H) (gt : G t = none) (c : Cont G H t st) (rs : Reps G vs ds) (hN : vs.length + 1 ≤ N.length) :
    Mt t G (less t H) (.ti st :: (ds.map Sl.va ++ List.replicate (N.length - (vs.length + 1)) .un)) G H (L2.start N (.ref t :: vs)) := by
  have lt : less t H t = none := if_pos rfl
  have sl : Same (less t H) H := fun b x e => by
    unfold less at e
    split at e
    · cases e
    · exact e
  have e : L2.start N (.ref t :: vs) = some (.ref t) :: (vs.map some ++ List.replicate (N.length - (vs.length + 1)) none) := rfl
  rw [e]
  refine ⟨⟨Same.refl G, sl, sg, fun b h _ => h⟩, by simp [rs.length], fun i r v h1 h2 => ?_, fun i j r s v u a hij h1 h2 h3 h4 e1 e2 => ?_⟩
  · cases i with
    | zero =>
      have h1 : Sl.ti st = r := by simpa using h1
      have h2 : some (V.ref t) = v := by simpa using h2
      subst h1 h2
      exact ⟨rfl, gt, lt, c⟩
    | succ i =>
      rw [List.getElem?_cons_succ] at h1 h2
      by_cases hi : i < ds.length
      · rw [List.getElem?_append_left (by simpa using hi), List.getElem?_map, List.getElem?_eq_getElem hi] at h1
        rw [List.getElem?_append_left (by rw [List.length_map, rs.length]; exact hi), List.getElem?_map] at h2
        cases h1
        obtain ⟨w, hw, rw'⟩ := rs.get (List.getElem?_eq_getElem hi)
        rw [hw] at h2; cases h2
        exact ⟨w, rfl, rw'⟩
      · rw [List.getElem?_append_right (by simpa using hi), List.getElem?_replicate] at h1
        split at h1 <;> cases h1
        exact True.intro
  · have only : ∀ {k : Nat} {r : Sl} {v : Option V}, (Sl.ti st :: (ds.map Sl.va ++ List.replicate (N.length - (vs.length + 1)) .un))[k]? = some r → ownA t r v = some a → k = 0 := fun {k r v} h e => by
      cases k with
      | zero => rfl
      | succ k =>
        rw [List.getElem?_cons_succ] at h
        by_cases hi : k < ds.length
        · rw [List.getElem?_append_left (by simpa using hi), List.getElem?_map, List.getElem?_eq_getElem hi] at h
          cases h; cases e
        · rw [List.getElem?_append_right (by simpa using hi), List.getElem?_replicate] at h
          split at h <;> cases h
          cases e
    exact hij ((only h1 e1).trans (only h3 e2).symm)
theorem body_runT {ts : TS} {t : Addr} {G : Hp} {ds : List D} {st st' d : D} (sg : Same G H) (gt : G t = none) (c : Cont G H t st) (rs : Reps G vs ds) (hN : vs.length + 1 ≤ N.length)
    (hQ : ∀ v G' H', Gr G (less t H) G' H' → G' t = none → Cont G' H' t st' → Rep G' v d → Q v H') (h : Run C E ts (.ti st :: (ds.map Sl.va ++ List.replicate (N.length - (vs.length + 1)) .un)) (PoT st' d)) :
    ts { nx := fun _ H' => Q .non H', rt := Q } (L2.start N (.ref t :: vs)) H :=
  h t G (less t H) G H _ (startT_mt sg gt c rs hN) _ ⟨fun ρ G' H' σ ⟨e, i⟩ m => by
      obtain ⟨_, q1, _, q2⟩ := m.ti i
      exact hQ .non G' H' m.gr q1 q2 (e ▸ .non), fun _ _ _ _ z => z.elim, fun _ _ _ _ z => z.elim, fun d' v ρ G' H' σ ⟨e, i⟩ m => by
      obtain ⟨_, q1, _, q2⟩ := m.pop.ti i
      exact hQ v G' H' m.gr q1 q2 (e ▸ m.last.rep), fun z => z.elim⟩
end

/-! ### calls -/
section
variable {C : Addr} {E E' : XK} {n : Nat} {rel : List D → Option D → Prop} {ρ ρ1 : En} {ts : TA} {ds : List D} {d : D} {po : Po}
theorem Mt.grow {t : Addr} {G0 H0 G H G' H' : Hp} {σ : L2.St} (m : Mt t G0 H0 ρ G H σ) (g : Gr G H G' H') : Mt t G0 H0 ρ G' H' σ := m.heap (m.gr.trans g) g.g g.h fun a h1 h2 _ => g.n a h1 h2
theorem ev_callD (h : EvA ts ρ ρ1 (ds.map Sl.va)) (hr : rel ds (some d)) (hn : ds.length = n) : EvD (tCall (spD C n rel) [] E ts) ρ ρ1 (.va d) := fun t G0 H0 κ τ G H σ hl m Q q =>
  h.all hl m fun vs G1 H1 m1 rs => by
    show spD C n rel (vs ++ []) H1 Q E
    rw [List.append_nil]
    refine ⟨G1, ds, some d, m1.gr.gh, rs, hn, hr, fun d' e v G' H' g w => ?_, fun e => nomatch e⟩
    cases e
    exact q v G' H' ((m1.grow g).push w)
/-- an evaluation that raises -/
def Rz (C : Addr) (E : XK) (te : TE) (ρ : En) : Prop := ∀ (t : Addr) (G0 H0 G H : Hp) (σ : L2.St), Mt t G0 H0 ρ G H σ → (∀ G' H', Gr G0 H0 G' H' → E (.ref C) none H') → ∀ Q : VK, te σ H Q
theorem rz_call (h : EvA ts ρ ρ1 (ds.map Sl.va)) (hr : rel ds none) (hn : ds.length = n) : Rz C E (tCall (spD C n rel) [] E ts) ρ := fun t G0 H0 G H σ m hE Q =>
  EvA.all h m.len m.nil fun vs G1 H1 m1 rs => by
    show spD C n rel (vs ++ []) H1 Q E
    rw [List.append_nil]
    exact ⟨G1, ds, (none : Option D), m1.gr.gh, rs, hn, hr, fun d e => (nomatch (show (none : Option D) = some d from e)), fun _ G' H' g => hE G' H' (m1.gr.trans g)⟩
theorem rz_op {r : R2} {ta tb : TE} (h : Rz C E ta ρ) : Rz C E (tOp r ta tb) ρ := fun t G0 H0 G H σ m hE Q => h t G0 H0 G H σ m hE _
theorem run_dropX {te : TE} (h : Rz C E te ρ) (hz : po.rz) : Run C E (tDrop te) ρ po := fun t G0 H0 G H σ m Ds s => h t G0 H0 G H σ m (s.rz hz) _
theorem run_asgX {te : TE} {g : TG} (h : Rz C E te ρ) (hz : po.rz) : Run C E (tAsg te g) ρ po := fun t G0 H0 G H σ m Ds s => h t G0 H0 G H σ m (s.rz hz) _
theorem run_retX {te : TE} (h : Rz C E te ρ) (hz : po.rz) : Run C E (tRet te) ρ po := fun t G0 H0 G H σ m Ds s => h t G0 H0 G H σ m (s.rz hz) _
/-- behind a raise nothing is read -/
theorem run_seqX {t1 t2 : TS} (h : Run C E t1 ρ { po with nx := fun _ => False }) : Run C E (tSeq t1 t2) ρ po := fun t G0 H0 G H σ m Ds s => h t G0 H0 G H σ m _ (s.next fun _ _ _ _ z _ => z.elim)
/-- a call that changes the list in slot i -/
theorem ev_callT {relT : D → List D → D → D → Prop} {i : Nat} {st st0 st' : D} (h0 : ρ[i]? = some (.ti st0)) (h : EvA ts ρ ρ1 (ds.map Sl.va)) (hi : ρ1[i]? = some (.ti st)) (hr : relT st ds st' d) (hn : ds.length = n) :
    EvD (tCall (spT n relT) [] E (tCons (tVar i) ts)) ρ (ρ1.set i (.ti st')) (.va d) := fun t G0 H0 κ τ G H σ hl m Q q => by
  have hlt : i < ρ.length := (List.getElem?_eq_some_iff.mp h0).1
  have hlt1 : i < ρ1.length := (List.getElem?_eq_some_iff.mp hi).1
  have e0 := (m.ti (i := i) (d := st0) (by rw [List.getElem?_append_left hlt]; exact h0)).1
  rw [List.getElem?_append_left (by rw [hl]; exact hlt)] at e0
  refine ⟨_, e0, ?_⟩
  refine EvA.all h hl m fun vs G1 H1 m1 rs => ?_
  show spT n relT ((.ref t :: vs) ++ []) H1 Q E
  rw [List.append_nil]
  have hi' : (ρ1 ++ κ)[i]? = some (.ti st) := by rw [List.getElem?_append_left hlt1]; exact hi
  obtain ⟨ev, gt, h0t, c⟩ := m1.ti hi'
  refine ⟨t, G1, vs, ds, st, st', d, rfl, m1.gr.gh, gt, c, rs, hn, hr, fun v G' H' g gt' c' w => q v G' H' (Mt.push ?_ w)⟩
  have hh : ∀ b o, b ≠ t → H1 b = some o → H' b = some o := fun b o hb e => g.h b o (by unfold less; rw [if_neg hb]; exact e)
  have hne : ∀ b, b ≠ t → H1 b ≠ none → less t H1 b ≠ none := fun b hb e => by unfold less; rw [if_neg hb]; exact e
  have gr' : Gr G0 H0 G' H' := by
    refine ⟨m1.gr.g.trans g.g, fun b o e => ?_, g.gh, fun b h1 h2 => ?_⟩
    · have hb : b ≠ t := fun z => by rw [z, h0t] at e; cases e
      exact hh b o hb (m1.gr.h b o e)
    · have hb : b ≠ t := fun z => h2 (z ▸ h0t)
      refine g.n b (m1.gr.n b h1 h2) (hne b hb ?_)
      cases e : H0 b with
      | none => exact absurd e h2
      | some o => rw [m1.gr.h b o e]; exact fun z => nomatch z
  have es : ρ1.set i (.ti st') ++ κ = (ρ1 ++ κ).set i (.ti st') := (set_app hlt1).symm
  rw [es]
  refine ⟨gr', by rw [List.length_set]; exact m1.len, fun k r u h1 h2 => ?_, fun k l r s u u' a hkl h1 h2 h3 h4 e1 e2 => ?_⟩
  · by_cases hk : k = i
    · subst hk
      rw [List.getElem?_set_self (by rw [List.length_append]; omega)] at h1
      cases h1
      rw [ev] at h2; cases h2
      exact ⟨rfl, gt', h0t, c'⟩
    · rw [List.getElem?_set_ne (Ne.symm hk)] at h1
      have z := m1.ok k r u h1 h2
      have far : ∀ b, ownA t r u = some b → b ≠ t := fun b e z => m1.nd k i r _ u _ t hk h1 h2 hi' ev (z ▸ e) rfl
      cases r with
      | un => exact True.intro
      | va d => obtain ⟨x, e, w⟩ := z; exact ⟨x, e, w.up g.g⟩
      | ow d =>
        obtain ⟨b, rfl, w1, w2, w3⟩ := z
        have hb := far b rfl
        refine ⟨b, rfl, g.n b w1 (hne b hb ?_), w2, w3.up g.g fun o e => hh b o hb e⟩
        obtain ⟨o, e⟩ := w3.some
        rw [e]; exact fun z => nomatch z
      | ti d => exact absurd rfl (far t rfl)
  · have key : ∀ {k : Nat} {r : Sl} {u : Option V}, ((ρ1 ++ κ).set i (.ti st'))[k]? = some r → (σ ++ τ)[k]? = some u → ownA t r u = some a → ∃ r', (ρ1 ++ κ)[k]? = some r' ∧ ownA t r' u = some a := fun {k r u} h1 h2 e => by
      by_cases hk : k = i
      · subst hk
        rw [List.getElem?_set_self (by rw [List.length_append]; omega)] at h1
        cases h1
        exact ⟨_, hi', e⟩
      · rw [List.getElem?_set_ne (Ne.symm hk)] at h1
        exact ⟨r, h1, e⟩
    obtain ⟨r', q1, q2⟩ := key h1 h2 e1
    obtain ⟨s', q3, q4⟩ := key h3 h4 e2
    exact m1.nd k l r' s' u u' a hkl q1 h2 q3 h4 q2 q4
end

/-! ### mutable lists: append, extend, pop, a place stored -/
section
variable {C : Addr} {E : XK} {K : PySem.W.Frag} {ρ ρ1 : En} {te ta : TE} {ds es : List D} {d : D} {po : Po} {i : Nat}
theorem Mt.frontAt {t : Addr} {G0 H0 G H : Hp} {ρ κ : En} {σ τ : L2.St} (m : Mt t G0 H0 (ρ ++ κ) G H (σ ++ τ)) (hl : σ.length = ρ.length) {i : Nat} {d : D} (h : ρ[i]? = some (.ow d)) :
    ∃ a, σ[i]? = some (some (.ref a)) ∧ (σ ++ τ)[i]? = some (some (.ref a)) ∧ (ρ ++ κ)[i]? = some (.ow d) ∧ Cont G H a d := by
  have hlt : i < ρ.length := (List.getElem?_eq_some_iff.mp h).1
  have h' : (ρ ++ κ)[i]? = some (.ow d) := by rw [List.getElem?_append_left hlt]; exact h
  obtain ⟨a, e, _, _, c⟩ := m.ow h'
  refine ⟨a, ?_, e, h', c⟩
  rw [List.getElem?_append_left (by rw [hl]; exact hlt)] at e
  exact e
theorem ev_append (h0 : ρ[i]? = some (.ow (.lst ds))) (h : EvD te ρ ρ1 (.va d)) (hi : ρ1[i]? = some (.ow (.lst es))) (hz : es.length < 100000) :
    EvD (tBM K "list" rAppend (tVar i) (tCons te tNil)) ρ (ρ1.set i (.ow (.lst (es ++ [d])))) (.va .non) := fun t G0 H0 κ τ G H σ hl m Q q => by
  obtain ⟨a, ea, _, _, xs, hx, _⟩ := m.frontAt hl h0
  refine ⟨_, ea, .inl ⟨rfl, xs, SqL.of hx⟩, ?_⟩
  refine h t G0 H0 κ τ G H σ hl m _ fun v G1 H1 m1 => ?_
  have w := m1.last.rep
  have m2 := m1.pop
  have hl1 := m2.len4 (m.len2 (ρ' := ρ) hl)
  obtain ⟨a', ea', eb, hb, ys, hy, ry⟩ := m2.frontAt hl1 hi
  rw [ea] at ea'; cases ea'
  refine ⟨a, ys, v, rfl, rfl, hy, by rw [ry.length]; exact small_lt hz, ?_⟩
  have m3 := m2.writeOw (o := .lst (ys ++ [v])) (d' := .lst (es ++ [d])) hb eb ⟨_, upd_same, ry.append (.cons w .nil)⟩
  rw [set_app (List.getElem?_eq_some_iff.mp hi).1] at m3
  exact q _ _ _ (m3.push .non)
theorem ev_extend (h0 : ρ[i]? = some (.ow (.lst ds))) (h : EvD te ρ ρ1 (.va (.lst es))) (hi : ρ1[i]? = some (.ow (.lst ds))) (hz : ds.length + es.length < 100000) :
    EvD (tBM K "list" rExtend (tVar i) (tCons te tNil)) ρ (ρ1.set i (.ow (.lst (ds ++ es)))) (.va .non) := fun t G0 H0 κ τ G H σ hl m Q q => by
  obtain ⟨a, ea, _, _, xs, hx, _⟩ := m.frontAt hl h0
  refine ⟨_, ea, .inl ⟨rfl, xs, SqL.of hx⟩, ?_⟩
  refine h t G0 H0 κ τ G H σ hl m _ fun v G1 H1 m1 => ?_
  have w := m1.last.rep
  have m2 := m1.pop
  have hl1 := m2.len4 (m.len2 (ρ' := ρ) hl)
  obtain ⟨a', ea', eb, hb, ys, hy, ry⟩ := m2.frontAt hl1 hi
  rw [ea] at ea'; cases ea'
  cases w with
  | @lst b zs _ g1 g2 =>
    refine ⟨a, b, ys, zs, rfl, rfl, hy, m2.gr.gh _ _ g1, by rw [ry.length, g2.length]; exact Nat.le_of_lt (small_lt hz), ?_⟩
    have m3 := m2.writeOw (o := .lst (ys ++ zs)) (d' := .lst (ds ++ es)) hb eb ⟨_, upd_same, ry.append g2⟩
    rw [set_app (List.getElem?_eq_some_iff.mp hi).1] at m3
    exact q _ _ _ (m3.push .non)
theorem ev_pop (h0 : ρ[i]? = some (.ow (.lst (ds ++ [d])))) : EvD (tBM0 K "list" rPop (tVar i)) ρ (ρ.set i (.ow (.lst ds))) (.va d) := fun t G0 H0 κ τ G H σ hl m Q q => by
  obtain ⟨a, ea, eb, hb, xs, hx, rx⟩ := m.frontAt hl h0
  have hn : xs.length = ds.length + 1 := by rw [rx.length]; simp
  obtain ⟨v, hv, w⟩ := rx.get (i := ds.length) (d := d) (by simp)
  refine ⟨_, ea, .inl ⟨rfl, xs, SqL.of hx⟩, a, xs, v, rfl, rfl, hx, by rw [hn]; exact hv, ?_⟩
  have m3 := m.writeOw (o := .lst xs.dropLast) (d' := .lst ds) hb eb ⟨_, upd_same, by have z := rx.dropLast; rw [List.dropLast_concat] at z; exact z⟩
  rw [set_app (List.getElem?_eq_some_iff.mp h0).1] at m3
  exact q _ _ _ (m3.push w)
theorem ev_popAt {k : Nat} (h0 : ρ[i]? = some (.ow (.lst es))) (h : EvD te ρ ρ1 (.va (.int (k : Int)))) (hi : ρ1[i]? = some (.ow (.lst ds))) (hk : ds[k]? = some d) (hz : ds.length < 100000) :
    EvD (tBM K "list" rPopAt (tVar i) (tCons te tNil)) ρ (ρ1.set i (.ow (.lst (ds.eraseIdx k)))) (.va d) := fun t G0 H0 κ τ G H σ hl m Q q => by
  obtain ⟨a, ea, _, _, xs, hx, _⟩ := m.frontAt hl h0
  refine ⟨_, ea, .inl ⟨rfl, xs, SqL.of hx⟩, ?_⟩
  refine h t G0 H0 κ τ G H σ hl m _ fun v G1 H1 m1 => ?_
  have w := m1.last.rep
  have m2 := m1.pop
  have hl1 := m2.len4 (m.len2 (ρ' := ρ) hl)
  obtain ⟨a', ea', eb, hb, ys, hy, ry⟩ := m2.frontAt hl1 hi
  rw [ea] at ea'; cases ea'
  cases w
  obtain ⟨u, hu, wu⟩ := ry.get hk
  have hlt : k < ys.length := (List.getElem?_eq_some_iff.mp hu).1
  have hlt2 : k < ds.length := (List.getElem?_eq_some_iff.mp hk).1
  have e1 : ixN ys.length (k : Int) = some k := by unfold ixN; rw [if_pos (by omega), if_pos (by omega)]; simp
  refine ⟨a, ys, (k : Int), k, u, rfl, rfl, hy, by omega, by omega, (ixN_seq e1).1, hu, ?_⟩
  have m3 := m2.writeOw (o := .lst (ys.eraseIdx k)) (d' := .lst (ds.eraseIdx k)) hb eb ⟨_, upd_same, ry.eraseIdx k⟩
  rw [set_app (List.getElem?_eq_some_iff.mp hi).1] at m3
  exact q _ _ _ (m3.push wu)
/-- xs[k] = e -/
theorem run_setAt {tk : TE} {k : Nat} (h : EvD te ρ ρ (.va d)) (h0 : ρ[i]? = some (.ow (.lst ds))) (hk : EvD tk ρ ρ (.va (.int (k : Int)))) (hlt : k < ds.length) (hn : po.nx (ρ.set i (.ow (.lst (ds.set k d))))) :
    Run C E (tAsg te (gSub (tVar i) tk rSetL)) ρ po := fun t G0 H0 G H σ m Ds s => by
  refine h.go m fun v G1 H1 m1 => ?_
  have w := m1.last.rep
  obtain ⟨a, ea, _, _, xs, hx, _⟩ := m1.frontAt (by have := m1.len; simpa using this) h0
  refine ⟨_, ea, ?_⟩
  have hl : σ.length = ρ.length := by have := m1.len; simpa using this
  refine hk t G0 H0 [.va d] [some v] G1 H1 σ hl m1 _ fun u G2 H2 m2 => ?_
  have wu := m2.last.rep
  cases wu
  have m3 := m2.pop
  have wv := m3.last.rep
  obtain ⟨a', ea', eb, hb, ys, hy, ry⟩ := m3.frontAt hl h0
  rw [ea] at ea'; cases ea'
  have e1 : ixN ys.length (k : Int) = some k := by
    have := ry.length
    unfold ixN; rw [if_pos (by omega), if_pos (by omega)]; simp
  refine ⟨a, ys, (k : Int), k, rfl, rfl, hy, e1, ?_⟩
  have m4 := m3.writeOw (o := .lst (ys.set k v)) (d' := .lst (ds.set k d)) hb eb ⟨_, upd_same, ry.set wv⟩
  rw [set_app (List.getElem?_eq_some_iff.mp h0).1] at m4
  exact s.nx _ _ _ _ hn m4.pop
end
end DL
end

section
set_option maxRecDepth 100000
set_option maxHeartbeats 4000000
/-! Operators and built-ins by data. -/
namespace DL
open PySem PySem.Spec PyProof.Rows L2 MN

/-! ### numbers and lists of numbers as data -/
abbrev nD (n : Nat) : D := .int (n : Int)
abbrev nT (l : List Nat) : D := .tup (l.map nD)
abbrev nL (l : List Nat) : D := .lst (l.map nD)
abbrev oD : Option Nat → D
  | some n => nD n
  | none => .non
section
variable {i j : Int} {a b : Bool} {x y : Str}
theorem opv_I0 {g : Int → Int → V} {z : D} (h : ∀ G, Rep G (g i j) z) : OpV (rI0 g) (.int i) (.int j) z := fun G H u v s hu hv Q q => by
  cases hu; cases hv
  exact ⟨i, j, rfl, rfl, q _ G H Al.refl (h G)⟩
theorem opv_I {C : Int → Int → Prop} {g : Int → Int → V} {z : D} (hc : C i j) (h : ∀ G, Rep G (g i j) z) : OpV (rI C g) (.int i) (.int j) z := fun G H u v s hu hv Q q => by
  cases hu; cases hv
  exact ⟨i, j, rfl, rfl, hc, q _ G H Al.refl (h G)⟩
theorem opv_int {g : Int → Int → Int} : OpV (rI0 fun i j => .int (g i j)) (.int i) (.int j) (.int (g i j)) := opv_I0 fun _ => .int _
theorem opv_bl {g : Int → Int → Bool} : OpV (rI0 fun i j => .bl (g i j)) (.int i) (.int j) (.bl (g i j)) := opv_I0 fun _ => .bl _
theorem opv_intC {C : Int → Int → Prop} {g : Int → Int → Int} (hc : C i j) : OpV (rI C fun i j => .int (g i j)) (.int i) (.int j) (.int (g i j)) := opv_I hc fun _ => .int _
theorem opv_eqI : OpV rEq (.int i) (.int j) (.bl (decide (i = j))) := fun G H u v s hu hv Q q => by
  cases hu; cases hv
  refine ⟨rfl, q _ G H Al.refl ?_⟩
  have e : decide (V.int i = V.int j) = decide (i = j) := by simp
  rw [e]; exact .bl _
theorem opv_neI : OpV rNe (.int i) (.int j) (.bl (!decide (i = j))) := fun G H u v s hu hv Q q => by
  cases hu; cases hv
  refine ⟨rfl, q _ G H Al.refl ?_⟩
  have e : decide (V.int i = V.int j) = decide (i = j) := by simp
  rw [e]; exact .bl _
theorem opv_eqB : OpV rEq (.bl a) (.bl b) (.bl (a == b)) := fun G H u v s hu hv Q q => by
  cases hu; cases hv
  refine ⟨rfl, q _ G H Al.refl ?_⟩
  rw [dec_bl]; exact .bl _
theorem opv_neB : OpV rNe (.bl a) (.bl b) (.bl (a != b)) := fun G H u v s hu hv Q q => by
  cases hu; cases hv
  refine ⟨rfl, q _ G H Al.refl ?_⟩
  rw [dec_bl]; exact .bl _
theorem opv_eqS : OpV rEq (.str x) (.str y) (.bl (x == y)) := fun G H u v s hu hv Q q => by
  cases hu; cases hv
  refine ⟨rfl, q _ G H Al.refl ?_⟩
  rw [dec_str]; exact .bl _
/-- is None -/
def isN : D → Bool
  | .non => true
  | _ => false
theorem Rep.isN {G : Hp} {v : V} {d : D} (h : Rep G v d) : decide (v = .non) = DL.isN d := by
  cases h <;> simp [DL.isN]
theorem opv_isN {d : D} : OpV (fun x y H Q => y = .non ∧ Q (.bl (decide (x = .non))) H) d .non (.bl (DL.isN d)) := fun G H u v s hu hv Q q => by
  cases hv
  refine ⟨rfl, q _ G H Al.refl ?_⟩
  rw [hu.isN]; exact .bl _
theorem opv_notN {d : D} : OpV (fun x y H Q => y = .non ∧ Q (.bl (!decide (x = .non))) H) d .non (.bl (!DL.isN d)) := fun G H u v s hu hv Q q => by
  cases hv
  refine ⟨rfl, q _ G H Al.refl ?_⟩
  rw [hu.isN]; exact .bl _
end

/-! ### items -/
section
variable {K : PySem.W.Frag} {ds es : List D} {d : D} {i : Int}
theorem reps_at {G : Hp} {xs : List V} (r : Reps G xs ds) (h : atI ds i = some d) : ∃ v, atI xs i = some v ∧ Rep G v d := by
  unfold atI at h ⊢
  rw [r.length]
  cases e : ixN ds.length i with
  | none => rw [e] at h; cases h
  | some j => rw [e] at h; exact r.get h
theorem opv_ixL (h : atI ds i = some d) : OpV (rIxL K) (.lst ds) (.int i) d := fun G H u v s hu hv Q q => by
  cases hv
  cases hu with
  | lst h1 h2 =>
    obtain ⟨w, e, r⟩ := reps_at h2 h
    exact ⟨_, _, i, w, rfl, rfl, SqL.of (s _ _ h1), e, q w G H Al.refl r⟩
theorem opv_ixT (h : atI ds i = some d) : OpV (rIxT K) (.tup ds) (.int i) d := fun G H u v s hu hv Q q => by
  cases hv
  cases hu with
  | tup h1 h2 =>
    obtain ⟨w, e, r⟩ := reps_at h2 h
    exact ⟨_, _, i, w, rfl, rfl, SqT.of (s _ _ h1), e, q w G H Al.refl r⟩
/-- what a dict holds -/
def dgetD (ks : List Int) (ds : List D) (k : Int) : Option D := ((ks.zip ds).find? fun p => decide (p.1 = k)).map (·.2)
theorem valV_kvs {G : Hp} {k : Int} : ∀ {ks : List Int} {xs : List V} {ds : List D}, Reps G xs ds → (∀ d, dgetD ks ds k = some d → ∃ v, valV (kvsOf ks xs) (Sum.inl k) = some v ∧ Rep G v d) ∧ (dgetD ks ds k = none → valV (kvsOf ks xs) (Sum.inl k) = none)
  | [], _, _, _ => ⟨fun d e => by simp [dgetD] at e, fun _ => rfl⟩
  | _ :: _, _, _, .nil => ⟨fun d e => by simp [dgetD] at e, fun _ => rfl⟩
  | k0 :: ks, _, _, .cons (v := v) (vs := vs) (d := d) r t => by
    have ih := valV_kvs (k := k) (ks := ks) t
    by_cases e : k0 = k
    · subst e
      refine ⟨fun d' h => ⟨v, ?_, ?_⟩, fun h => ?_⟩
      · show valV ((Sum.inl k0, v) :: _) _ = _
        exact valV_pos rfl
      · have : d = d' := by simpa [dgetD, List.zip_cons_cons, List.find?_cons] using h
        exact this ▸ r
      · simp [dgetD, List.zip_cons_cons, List.find?_cons] at h
    · have e2 : ¬ (Sum.inl k0 : Key) = Sum.inl k := fun z => e (Sum.inl.inj z)
      have e3 : valV (kvsOf (k0 :: ks) (v :: vs)) (Sum.inl k) = valV (kvsOf ks vs) (Sum.inl k) := valV_neg (p := (Sum.inl k0, v)) e2
      refine ⟨fun d' h => ?_, fun h => ?_⟩
      · rw [e3]
        exact ih.1 d' (by simpa [dgetD, List.zip_cons_cons, List.find?_cons, e] using h)
      · rw [e3]
        exact ih.2 (by simpa [dgetD, List.zip_cons_cons, List.find?_cons, e] using h)
abbrev rDGet : R2 := fun x y H Q => ∃ a v, x = .ref a ∧ DGet H a y (some v) ∧ Q v H
abbrev rDIn : R2 := fun y x H Q => ∃ a o, x = .ref a ∧ DGet H a y o ∧ Q (.bl o.isSome) H
abbrev rDNotIn : R2 := fun y x H Q => ∃ a o, x = .ref a ∧ DGet H a y o ∧ Q (.bl (!o.isSome)) H
theorem opv_dget {ks : List Int} (h : dgetD ks ds i = some d) : OpV rDGet (.dic ks ds) (.int i) d := fun G H u v s hu hv Q q => by
  cases hv
  cases hu with
  | dic h1 h2 h3 =>
    obtain ⟨w, e, r⟩ := (valV_kvs h3).1 d h
    exact ⟨_, w, rfl, e ▸ DGet.k (k := Sum.inl i) (s _ _ h1), q w G H Al.refl r⟩
theorem dgetD_isSome {k : Int} : ∀ {ks : List Int} {ds : List D}, ks.length = ds.length → (dgetD ks ds k).isSome = ks.contains k
  | [], _, _ => rfl
  | _ :: _, [], h => by simp at h
  | k0 :: ks, d :: ds, h => by
    have ih := dgetD_isSome (k := k) (ks := ks) (ds := ds) (by simpa using h)
    by_cases e : k0 = k
    · subst e; simp [dgetD, List.zip_cons_cons, List.find?_cons]
    · have e' : ¬ k = k0 := fun z => e z.symm
      simp only [dgetD, List.zip_cons_cons, List.find?_cons, e, decide_false, List.contains_cons] at ih ⊢
      rw [ih]
      simp [e']
theorem opv_din {ks : List Int} : OpV rDIn (.int i) (.dic ks ds) (.bl (ks.contains i)) := fun G H u v s hu hv Q q => by
  cases hu
  cases hv with
  | @dic a _ xs _ h1 h2 h3 =>
    refine ⟨_, _, rfl, DGet.k (k := Sum.inl i) (s _ _ h1), q _ G H Al.refl ?_⟩
    have e : (valV (kvsOf ks xs) (Sum.inl i)).isSome = (dgetD ks ds i).isSome := by
      cases z : dgetD ks ds i with
      | none => rw [(valV_kvs h3).2 z]; rfl
      | some d => obtain ⟨w, e, _⟩ := (valV_kvs h3).1 d z; rw [e]; rfl
    rw [e, dgetD_isSome h2]; exact .bl _
theorem opv_dnotin {ks : List Int} : OpV rDNotIn (.int i) (.dic ks ds) (.bl (!ks.contains i)) := fun G H u v s hu hv Q q => by
  cases hu
  cases hv with
  | @dic a _ xs _ h1 h2 h3 =>
    refine ⟨_, _, rfl, DGet.k (k := Sum.inl i) (s _ _ h1), q _ G H Al.refl ?_⟩
    have e : (valV (kvsOf ks xs) (Sum.inl i)).isSome = (dgetD ks ds i).isSome := by
      cases z : dgetD ks ds i with
      | none => rw [(valV_kvs h3).2 z]; rfl
      | some d => obtain ⟨w, e, _⟩ := (valV_kvs h3).1 d z; rw [e]; rfl
    rw [e, dgetD_isSome h2]; exact .bl _

/-! ### in -/
/-- plain data as values -/
def toV : D → V
  | .non => .non
  | .bl b => .bl b
  | .int i => .int i
  | .str x => .str x
  | .ob a => .ref a
  | _ => .non
def flatD : D → Bool
  | .non | .bl _ | .int _ | .str _ => true
  | _ => false
theorem Rep.toV {G : Hp} {v : V} {d : D} (h : Rep G v d) (f : flatD d = true) : v = DL.toV d ∧ flatV v = true := by
  cases h <;> first | exact ⟨rfl, rfl⟩ | exact absurd f (by simp [flatD])
theorem Reps.toV {G : Hp} : ∀ {vs : List V} {ds : List D}, Reps G vs ds → ds.all flatD = true → vs = ds.map DL.toV ∧ vs.all flatV = true
  | _, _, .nil, _ => ⟨rfl, rfl⟩
  | _, _, .cons r t, h => by
    rw [List.all_cons, Bool.and_eq_true] at h
    obtain ⟨e1, f1⟩ := r.toV h.1
    obtain ⟨e2, f2⟩ := Reps.toV t h.2
    exact ⟨by rw [List.map_cons, ← e1, ← e2], by rw [List.all_cons, f1, f2] <;> rfl⟩
def inD (x : D) (ds : List D) : Bool := inV (toV x) (ds.map toV)
theorem opv_inT {neg : Bool} {x : D} (fx : flatD x = true) (f : ds.all flatD = true) : OpV (rIn K neg) x (.tup ds) (.bl (if neg then !inD x ds else inD x ds)) := fun G H u v s hu hv Q q => by
  obtain ⟨e, fv⟩ := hu.toV fx
  cases hv with
  | tup h1 h2 =>
    obtain ⟨e2, f2⟩ := h2.toV f
    refine ⟨_, _, rfl, .inr (SqT.of (s _ _ h1)), fv, f2, q _ G H Al.refl ?_⟩
    rw [e, e2]; exact .bl _
theorem opv_inL {neg : Bool} {x : D} (fx : flatD x = true) (f : ds.all flatD = true) : OpV (rIn K neg) x (.lst ds) (.bl (if neg then !inD x ds else inD x ds)) := fun G H u v s hu hv Q q => by
  obtain ⟨e, fv⟩ := hu.toV fx
  cases hv with
  | lst h1 h2 =>
    obtain ⟨e2, f2⟩ := h2.toV f
    refine ⟨_, _, rfl, .inl (SqL.of (s _ _ h1)), fv, f2, q _ G H Al.refl ?_⟩
    rw [e, e2]; exact .bl _
theorem flat_nats (l : List Nat) : (l.map nD).all flatD = true := by induction l <;> simp_all [flatD]
theorem flat_opts (l : List (Option Nat)) : (l.map oD).all flatD = true := by
  induction l with
  | nil => rfl
  | cons a l ih => cases a <;> simp_all [flatD]
theorem inD_nats (a : Nat) : ∀ l : List Nat, inD (nD a) (l.map nD) = decide (a ∈ l)
  | [] => rfl
  | b :: l => by
    have ih := inD_nats a l
    unfold inD inV at ih ⊢
    rw [List.map_cons, List.map_cons, List.any_cons, ih]
    show (((b : Int) == (a : Int)) || _) = _
    by_cases e : a = b
    · subst e; simp
    · have : ¬ (b : Int) = (a : Int) := fun z => e (by omega)
      simp [this, e]
theorem inD_opts (a : Nat) : ∀ l : List (Option Nat), inD (nD a) (l.map oD) = decide (some a ∈ l)
  | [] => rfl
  | none :: l => by
    have ih := inD_opts a l
    unfold inD inV at ih ⊢
    rw [List.map_cons, List.map_cons, List.any_cons, ih]
    show (false || _) = _
    simp
  | some b :: l => by
    have ih := inD_opts a l
    unfold inD inV at ih ⊢
    rw [List.map_cons, List.map_cons, List.any_cons, ih]
    show (((b : Int) == (a : Int)) || _) = _
    by_cases e : a = b
    · subst e; simp
    · have : ¬ (b : Int) = (a : Int) := fun z => e (by omega)
      simp [this, e]
theorem opv_in_nT {a : Nat} {l : List Nat} : OpV (rIn K false) (nD a) (nT l) (.bl (decide (a ∈ l))) := by
  have z := opv_inT (K := K) (neg := false) (x := nD a) rfl (flat_nats l)
  rw [if_neg Bool.false_ne_true, inD_nats] at z; exact z
theorem opv_ni_nT {a : Nat} {l : List Nat} : OpV (rIn K true) (nD a) (nT l) (.bl (!decide (a ∈ l))) := by
  have z := opv_inT (K := K) (neg := true) (x := nD a) rfl (flat_nats l)
  rw [if_pos rfl, inD_nats] at z; exact z
theorem opv_in_nL {a : Nat} {l : List Nat} : OpV (rIn K false) (nD a) (nL l) (.bl (decide (a ∈ l))) := by
  have z := opv_inL (K := K) (neg := false) (x := nD a) rfl (flat_nats l)
  rw [if_neg Bool.false_ne_true, inD_nats] at z; exact z
theorem opv_ni_nL {a : Nat} {l : List Nat} : OpV (rIn K true) (nD a) (nL l) (.bl (!decide (a ∈ l))) := by
  have z := opv_inL (K := K) (neg := true) (x := nD a) rfl (flat_nats l)
  rw [if_pos rfl, inD_nats] at z; exact z
theorem opv_ni_oT {a : Nat} {l : List (Option Nat)} : OpV (rIn K true) (nD a) (.tup (l.map oD)) (.bl (!decide (some a ∈ l))) := by
  have z := opv_inT (K := K) (neg := true) (x := nD a) rfl (flat_opts l)
  rw [if_pos rfl, inD_opts] at z; exact z

/-! ### == of data -/
mutual
def toPy : D → PyData
  | .non => .none
  | .bl b => .bool b
  | .int i => .int i
  | .str x => .str x
  | .lst ds => .list (toPys ds)
  | .tup ds => .tuple (toPys ds)
  | .dic _ _ => .none
  | .ob _ => .none
  | .ty _ => .none
  | .scr _ _ => .none
def toPys : List D → List PyData
  | [] => []
  | d :: ds => toPy d :: toPys ds
end
mutual
def noOb : D → Bool
  | .lst ds => noObs ds
  | .tup ds => noObs ds
  | .dic _ _ => false
  | .ob _ => false
  | .ty _ => false
  | .scr _ _ => false
  | _ => true
def noObs : List D → Bool
  | [] => true
  | d :: ds => noOb d && noObs ds
end
mutual
theorem Rep.dp {G H : Hp} (s : Same G H) : ∀ (d : D) (v : V), Rep G v d → noOb d = true → Dp K H v (toPy d)
  | .non, _, h, _ => by cases h; exact .non
  | .bl _, _, h, _ => by cases h; exact .bl _
  | .int _, _, h, _ => by cases h; exact .int _
  | .str _, _, h, _ => by cases h; exact .str _
  | .lst ds, _, h, f => by
    cases h with
    | lst h1 h2 => exact .lst (SqL.of (s _ _ h1)) (Reps.dp s ds _ h2 (by simpa [noOb] using f))
  | .tup ds, _, h, f => by
    cases h with
    | tup h1 h2 => exact .tup (SqT.of (s _ _ h1)) (Reps.dp s ds _ h2 (by simpa [noOb] using f))
  | .dic _ _, _, _, f => absurd f (by simp [noOb])
  | .ob _, _, _, f => absurd f (by simp [noOb])
  | .ty _, _, _, f => absurd f (by simp [noOb])
  | .scr _ _, _, _, f => absurd f (by simp [noOb])
theorem Reps.dp {G H : Hp} (s : Same G H) : ∀ (ds : List D) (vs : List V), Reps G vs ds → noObs ds = true → DpAll K H vs (toPys ds)
  | [], _, h, _ => by cases h; exact .nil
  | d :: ds, _, h, f => by
    have f' : noOb d = true ∧ noObs ds = true := by simpa [noObs] using f
    cases h with
    | cons h1 h2 => exact .cons (Rep.dp s d _ h1 f'.1) (Reps.dp s ds _ h2 f'.2)
end
/-- data that == compares -/
def eqOk (d : D) : Bool := noOb d && SeqAt.shaped (toPy d)
def eqvD (x y : D) : Bool := PyData.eqv (toPy x) (toPy y)
theorem opv_eqD {x y : D} (fx : eqOk x = true) (fy : eqOk y = true) : OpV (rEqD K) x y (.bl (eqvD x y)) := fun G H u v s hu hv Q q => by
  unfold eqOk at fx fy
  rw [Bool.and_eq_true] at fx fy
  exact ⟨_, _, Rep.dp s _ _ hu fx.1, Rep.dp s _ _ hv fy.1, fx.2, fy.2, q _ G H Al.refl (.bl _)⟩
theorem opv_neD {x y : D} (fx : eqOk x = true) (fy : eqOk y = true) : OpV (rNeD K) x y (.bl (!eqvD x y)) := fun G H u v s hu hv Q q => by
  unfold eqOk at fx fy
  rw [Bool.and_eq_true] at fx fy
  exact ⟨_, _, Rep.dp s _ _ hu fx.1, Rep.dp s _ _ hv fy.1, fx.2, fy.2, q _ G H Al.refl (.bl _)⟩
theorem noObs_nats (l : List Nat) : noObs (l.map nD) = true := by
  induction l with
  | nil => rfl
  | cons a l ih => simp [noObs, noOb]; simpa using ih
theorem canLay_nats (l : List Nat) : PyData.canLayAll0 (toPys (l.map nD)) = true := by
  induction l with
  | nil => simp [toPys, PyData.canLayAll0]
  | cons a l ih => simp [toPys, toPy, PyData.canLayAll0, PyData.canLay0]; simpa using ih
theorem depth_nats (l : List Nat) : PyData.depthAll (toPys (l.map nD)) = 0 := by
  induction l with
  | nil => simp [toPys, PyData.depthAll]
  | cons a l ih => simp [toPys, toPy, PyData.depthAll, PyData.depth]; simpa using ih
theorem eqOk_nL (l : List Nat) : eqOk (nL l) = true := by
  unfold eqOk SeqAt.shaped
  simp [noOb, noObs_nats, toPy, PyData.canLay0, canLay_nats, PyData.depth, depth_nats]
theorem eqOk_nT (l : List Nat) : eqOk (nT l) = true := by
  unfold eqOk SeqAt.shaped
  simp [noOb, noObs_nats, toPy, PyData.canLay0, canLay_nats, PyData.depth, depth_nats]
theorem eqvAll_nats : ∀ l k : List Nat, PyData.eqvAll (toPys (l.map nD)) (toPys (k.map nD)) = decide (l = k)
  | [], [] => by simp [toPys, PyData.eqvAll]
  | [], _ :: _ => by simp [toPys, PyData.eqvAll]
  | _ :: _, [] => by simp [toPys, PyData.eqvAll]
  | a :: l, b :: k => by
    have ih := eqvAll_nats l k
    rw [List.map_cons, List.map_cons]
    simp only [toPys, toPy, PyData.eqvAll, PyData.eqv]
    rw [ih]
    by_cases e : a = b
    · subst e; simp
    · have : ¬ (a : Int) = (b : Int) := fun z => e (by omega)
      simp [e, this]
theorem eqvD_nL (l k : List Nat) : eqvD (nL l) (nL k) = decide (l = k) := by simp [eqvD, toPy, PyData.eqv, eqvAll_nats]
theorem eqvD_nT (l k : List Nat) : eqvD (nT l) (nT k) = decide (l = k) := by simp [eqvD, toPy, PyData.eqv, eqvAll_nats]
theorem opv_eq_nL {l k : List Nat} : OpV (rEqD K) (nL l) (nL k) (.bl (decide (l = k))) := eqvD_nL l k ▸ opv_eqD (eqOk_nL l) (eqOk_nL k)
theorem opv_eq_nT {l k : List Nat} : OpV (rEqD K) (nT l) (nT k) (.bl (decide (l = k))) := eqvD_nT l k ▸ opv_eqD (eqOk_nT l) (eqOk_nT k)
theorem opv_ne_nL {l k : List Nat} : OpV (rNeD K) (nL l) (nL k) (.bl (!decide (l = k))) := eqvD_nL l k ▸ opv_neD (eqOk_nL l) (eqOk_nL k)
/-- .. with the empty list -/
theorem eqvD_nil (ds : List D) : eqvD (.lst ds) (.lst []) = ds.isEmpty := by
  cases ds with
  | nil => simp [eqvD, toPy, toPys, PyData.eqv, PyData.eqvAll]
  | cons d ds => simp [eqvD, toPy, toPys, PyData.eqv, PyData.eqvAll]
theorem eqOk_nil : eqOk (.lst []) = true := eqOk_nL []
theorem opv_eq_nil (h : eqOk (.lst ds) = true) : OpV (rEqD K) (.lst ds) (.lst []) (.bl ds.isEmpty) := eqvD_nil ds ▸ opv_eqD h eqOk_nil
theorem opv_ne_nil (h : eqOk (.lst ds) = true) : OpV (rNeD K) (.lst ds) (.lst []) (.bl (!ds.isEmpty)) := eqvD_nil ds ▸ opv_neD h eqOk_nil
/-- lists of tuples of numbers -/
theorem noObs_tups (l : List (List Nat)) : noObs (l.map nT) = true := by
  induction l with
  | nil => rfl
  | cons a l ih => rw [List.map_cons]; simp only [noObs, noOb, noObs_nats, Bool.true_and]; exact ih
theorem canLay_tups (l : List (List Nat)) : PyData.canLayAll0 (toPys (l.map nT)) = true := by
  induction l with
  | nil => simp [toPys, PyData.canLayAll0]
  | cons a l ih => rw [List.map_cons]; simp only [toPys, toPy, PyData.canLayAll0, PyData.canLay0, canLay_nats, Bool.true_and]; exact ih
theorem depth_tups (l : List (List Nat)) : PyData.depthAll (toPys (l.map nT)) ≤ 1 := by
  induction l with
  | nil => simp [toPys, PyData.depthAll]
  | cons a l ih => rw [List.map_cons]; simp only [toPys, toPy, PyData.depthAll, PyData.depth, depth_nats]; omega
theorem eqOk_tups (l : List (List Nat)) : eqOk (.lst (l.map nT)) = true := by
  unfold eqOk SeqAt.shaped
  have := depth_tups l
  simp [noOb, noObs_tups, toPy, PyData.canLay0, canLay_tups, PyData.depth]
  omega
end

/-! ### built-ins -/
section
variable {K : PySem.W.Frag} {ds es : List D} {d : D} {i : Int} {l : List Nat}
theorem cv_lenL : CallV (fun xs H Q => ∃ p ys, xs = [.ref p] ∧ (SqL K H p ys ∨ SqT K H p ys) ∧ Q (.int ys.length) H) [.lst ds] (nD ds.length) := fun G H us s rs Q q => by
  cases rs with
  | cons r1 r2 =>
    cases r2
    cases r1 with
    | lst h1 h2 => exact ⟨_, _, rfl, .inl (SqL.of (s _ _ h1)), q _ G H Al.refl (by rw [h2.length]; exact .int _)⟩
theorem cv_lenT : CallV (fun xs H Q => ∃ p ys, xs = [.ref p] ∧ (SqL K H p ys ∨ SqT K H p ys) ∧ Q (.int ys.length) H) [.tup ds] (nD ds.length) := fun G H us s rs Q q => by
  cases rs with
  | cons r1 r2 =>
    cases r2
    cases r1 with
    | tup h1 h2 => exact ⟨_, _, rfl, .inr (SqT.of (s _ _ h1)), q _ G H Al.refl (by rw [h2.length]; exact .int _)⟩
theorem cv_tupleL : CallV (fun xs H Q => ∃ p ys, xs = [.ref p] ∧ ((SqL K H p ys ∧ ∀ l, H l = none → Q (.ref l) (upd H l (.tup ys))) ∨ (SqT K H p ys ∧ Q (.ref p) H))) [.lst ds] (.tup ds) := fun G H us s rs Q q => by
  cases rs with
  | cons r1 r2 =>
    cases r2
    cases r1 with
    | lst h1 h2 => exact ⟨_, _, rfl, .inl ⟨SqL.of (s _ _ h1), fun l hl => q _ _ _ (Al.new hl) (.tup upd_same (h2.up (same_upd (s.free hl))))⟩⟩
theorem cv_tupleT : CallV (fun xs H Q => ∃ p ys, xs = [.ref p] ∧ ((SqL K H p ys ∧ ∀ l, H l = none → Q (.ref l) (upd H l (.tup ys))) ∨ (SqT K H p ys ∧ Q (.ref p) H))) [.tup ds] (.tup ds) := fun G H us s rs Q q => by
  cases rs with
  | cons r1 r2 =>
    cases r2
    cases r1 with
    | tup h1 h2 => exact ⟨_, _, rfl, .inr ⟨SqT.of (s _ _ h1), q _ G H Al.refl (.tup h1 h2)⟩⟩
theorem co_listL : CallO (fun xs H Q => ∃ p ys, xs = [.ref p] ∧ (SqL K H p ys ∨ SqT K H p ys) ∧ ∀ l, H l = none → Q (.ref l) (upd H l (.lst ys))) [.lst ds] (.lst ds) := fun G H us s rs Q q => by
  cases rs with
  | cons r1 r2 =>
    cases r2
    cases r1 with
    | lst h1 h2 => exact ⟨_, _, rfl, .inl (SqL.of (s _ _ h1)), fun l hl => q l _ hl ⟨_, upd_same, h2⟩⟩
theorem co_listT : CallO (fun xs H Q => ∃ p ys, xs = [.ref p] ∧ (SqL K H p ys ∨ SqT K H p ys) ∧ ∀ l, H l = none → Q (.ref l) (upd H l (.lst ys))) [.tup ds] (.lst ds) := fun G H us s rs Q q => by
  cases rs with
  | cons r1 r2 =>
    cases r2
    cases r1 with
    | tup h1 h2 => exact ⟨_, _, rfl, .inr (SqT.of (s _ _ h1)), fun l hl => q l _ hl ⟨_, upd_same, h2⟩⟩
abbrev rInt1 : List V → Hp → VK → Prop := fun xs H Q => (∃ i, xs = [.int i] ∧ Q (.int i) H) ∨ ∃ k, xs = [.bl k] ∧ Q (.int (if k then 1 else 0)) H
theorem cv_intI : CallV rInt1 [.int i] (.int i) := fun G H us s rs Q q => by
  cases rs with
  | cons r1 r2 =>
    cases r2; cases r1
    exact .inl ⟨i, rfl, q _ G H Al.refl (.int i)⟩
theorem cv_intB {b : Bool} : CallV rInt1 [.bl b] (.int (if b then 1 else 0)) := fun G H us s rs Q q => by
  cases rs with
  | cons r1 r2 =>
    cases r2; cases r1
    exact .inr ⟨b, rfl, q _ G H Al.refl (.int _)⟩
theorem cv_abs : CallV (fun xs H Q => ∃ i, xs = [.int i] ∧ Q (.int (if i < 0 then -i else i)) H) [.int i] (.int (if i < 0 then -i else i)) := fun G H us s rs Q q => by
  cases rs with
  | cons r1 r2 =>
    cases r2; cases r1
    exact ⟨i, rfl, q _ G H Al.refl (.int _)⟩
theorem cv_min {j : Int} : CallV (fun xs H Q => ∃ i j, xs = [.int i, .int j] ∧ Q (.int (if j < i then j else i)) H) [.int i, .int j] (.int (if j < i then j else i)) := fun G H us s rs Q q => by
  cases rs with
  | cons r1 r2 =>
    cases r2 with
    | cons r2 r3 =>
      cases r3; cases r1; cases r2
      exact ⟨i, j, rfl, q _ G H Al.refl (.int _)⟩
theorem reps_bls {G : Hp} : ∀ {bs : List Bool} {vs : List V}, Reps G vs (bs.map D.bl) → vs = bs.map V.bl
  | [], _, h => by cases h; rfl
  | b :: bs, _, h => by
    cases h with
    | cons r t => cases r; rw [reps_bls t] <;> rfl
theorem cv_any {bs : List Bool} : CallV (rAny K) [.lst (bs.map D.bl)] (.bl (bs.any id)) := fun G H us s rs Q q => by
  cases rs with
  | cons r1 r2 =>
    cases r2
    cases r1 with
    | lst h1 h2 => exact ⟨_, bs, rfl, by rw [← reps_bls h2]; exact SqL.of (s _ _ h1), q _ G H Al.refl (.bl _)⟩
theorem cv_all {bs : List Bool} : CallV (rAll K) [.lst (bs.map D.bl)] (.bl (bs.all id)) := fun G H us s rs Q q => by
  cases rs with
  | cons r1 r2 =>
    cases r2
    cases r1 with
    | lst h1 h2 => exact ⟨_, bs, rfl, by rw [← reps_bls h2]; exact SqL.of (s _ _ h1), q _ G H Al.refl (.bl _)⟩
theorem reps_ints {G : Hp} : ∀ {ns : List Int} {vs : List V}, Reps G vs (ns.map D.int) → vs = ns.map V.int
  | [], _, h => by cases h; rfl
  | b :: bs, _, h => by
    cases h with
    | cons r t => cases r; rw [reps_ints t] <;> rfl
theorem ints_reps {G : Hp} : ∀ ns : List Int, Reps G (ns.map V.int) (ns.map D.int)
  | [] => .nil
  | n :: ns => .cons (.int n) (ints_reps ns)
theorem sorted_unique : ∀ {l k : List Int}, l.Perm k → l.Pairwise (· ≤ ·) → k.Pairwise (· ≤ ·) → l = k
  | [], k, h, _, _ => by rw [List.nil_perm.mp h]
  | a :: l, [], h, _, _ => by have := h.length_eq; simp at this
  | a :: l, b :: k, h, h1, h2 => by
    rw [List.pairwise_cons] at h1 h2
    have e : a = b := by
      have ha : a ∈ b :: k := h.mem_iff.mp List.mem_cons_self
      have hb : b ∈ a :: l := h.mem_iff.mpr List.mem_cons_self
      rcases List.mem_cons.mp ha with e | ha
      · exact e
      · rcases List.mem_cons.mp hb with e | hb
        · exact e.symm
        · have := h1.1 b hb
          have := h2.1 a ha
          omega
    subst e
    rw [sorted_unique h.cons_inv h1.2 h2.2]
theorem co_sortedN : CallO (rSortedI K) [nL l] (nL (srt l)) := fun G H us s rs Q q => by
  cases rs with
  | cons r1 r2 =>
    cases r2
    cases r1 with
    | @lst a xs _ h1 h2 =>
      have e : (l.map nD) = (l.map fun (n : Nat) => (n : Int)).map D.int := by rw [List.map_map]; rfl
      rw [e] at h2
      refine ⟨a, l.map fun (n : Nat) => (n : Int), rfl, by rw [← reps_ints h2]; exact SqL.of (s _ _ h1), fun ns' p hp hs hn => ?_⟩
      have e2 : ns' = (srt l).map fun (n : Nat) => (n : Int) := sorted_unique (hp.trans ((srt_perm l).map _).symm) hs (List.pairwise_map.mpr ((srt_sorted l).imp fun h => by omega))
      subst e2
      refine q p _ hn ⟨_, upd_same, ?_⟩
      have e3 : (srt l).map nD = ((srt l).map fun (n : Nat) => (n : Int)).map D.int := by rw [List.map_map]; rfl
      rw [e3]
      exact ints_reps _

/-! ### isinstance -/
def tyN : D → String
  | .non => "NoneType"
  | .bl _ => "bool"
  | .int _ => "int"
  | .str _ => "str"
  | .lst _ => "list"
  | .tup _ => "tuple"
  | .dic _ _ => "dict"
  | .ob _ => ""
  | .ty _ => ""
  | .scr _ _ => ""
def hasTy : D → Bool
  | .ob _ => false
  | .ty _ => false
  | .scr _ _ => false
  | _ => true
theorem Rep.tyX {G H : Hp} (s : Same G H) {v : V} {d : D} (h : Rep G v d) (f : hasTy d = true) : TyX K H v (.type (tyN d)) := by
  cases h with
  | non => exact .base .non
  | bl b => exact .base (.bl b)
  | int i => exact .base (.int i)
  | str x => exact .base (.str x)
  | lst h1 _ => exact .base (.lst (s _ _ h1))
  | tup h1 _ => exact .base (.tup (s _ _ h1))
  | dic h1 _ _ => exact .base (.dK (s _ _ h1))
  | ob a => exact absurd f (by simp [hasTy])
  | scr _ => exact absurd f (by simp [hasTy])
  | ty n => exact absurd f (by simp [hasTy])
theorem cv_isi {x : D} {n : String} {b : Bool} (f : hasTy x = true) (h : kitB (tyN x) n = some b) : CallV (rIsi K) [x, .ty n] (.bl b) := fun G H us s rs Q q => by
  cases rs with
  | cons r1 r2 =>
    cases r2 with
    | cons r2 r3 =>
      cases r3; cases r2
      exact ⟨_, _, _, _, b, rfl, .ty n, r1.tyX s f, kit_ty h, q _ G H Al.refl (.bl b)⟩
theorem cv_isiT {x : D} {n m : String} {b c : Bool} (f : hasTy x = true) (h : kitB (tyN x) n = some b) (h2 : kitB (tyN x) m = some c) : CallV (rIsiT K) [x, .tup [.ty n, .ty m]] (.bl (b || c)) := fun G H us s rs Q q => by
  cases rs with
  | cons r1 r2 =>
    cases r2 with
    | cons r2 r3 =>
      cases r3
      cases r2 with
      | tup h3 h4 =>
        cases h4 with
        | cons q1 q2 =>
          cases q2 with
          | cons q2 q3 =>
            cases q3; cases q1; cases q2
            refine ⟨_, _, _, _, _, (b || c), rfl, s _ _ h3, .cons (.ty n) (.cons (.ty m) .nil), r1.tyX s f, ?_, q _ G H Al.refl (.bl _)⟩
            refine kitAny_cons (kit_ty h) (fun hb => ?_) (fun hb => by rw [hb]; rfl)
            subst hb
            exact kitAny_cons (kit_ty h2) (fun hc => by rw [hc]; exact kitAny_nil) (fun hc => by rw [hc]; rfl)
/-! ### lists and tuples joined -/
theorem opo_cat (hz : ds.length + es.length ≤ 100000) : OpO rCat (.lst ds) (.lst es) (.lst (ds ++ es)) := fun G H u v s hu hv Q q => by
  cases hu with
  | lst h1 h2 =>
    cases hv with
    | lst h3 h4 => exact ⟨_, _, _, _, rfl, rfl, s _ _ h1, s _ _ h3, by rw [h2.length, h4.length]; exact small_of hz, fun p hp => q p _ hp ⟨_, upd_same, h2.append h4⟩⟩
theorem opv_catT (hz : ds.length + es.length ≤ 100000) : OpV (rCatA K) (.tup ds) (.tup es) (.tup (ds ++ es)) := fun G H u v s hu hv Q q => by
  cases hu with
  | @tup a xs _ h1 h2 =>
    cases hv with
    | @tup b ys _ h3 h4 =>
      refine ⟨a, b, xs, ys, rfl, rfl, SqT.of (s _ _ h1), SqT.of (s _ _ h3), by rw [h2.length, h4.length]; exact small_of hz, fun e => ?_, fun _ e => ?_, fun _ _ p hp => ?_⟩
      · subst e; cases h2
        exact q _ G H Al.refl (.tup h3 h4)
      · subst e; cases h4
        refine q _ G H Al.refl ?_
        rw [List.append_nil]
        exact .tup h1 h2
      · exact q _ _ _ (Al.new hp) (.tup upd_same ((h2.append h4).up (same_upd (s.free hp))))
theorem opo_rep {k : Nat} (hz : ds.length * k ≤ 100000) (hk : k ≤ 100000) : OpO rRep (.lst ds) (nD k) (.lst (List.replicate k ds).flatten) := fun G H u v s hu hv Q q => by
  cases hv
  cases hu with
  | lst h1 h2 =>
    refine ⟨_, _, _, rfl, rfl, s _ _ h1, by omega, by omega, by rw [h2.length, Int.toNat_natCast]; exact small_of hz, fun p hp => ?_⟩
    rw [Int.toNat_natCast]
    exact q p _ hp ⟨_, upd_same, h2.rep k⟩
/-- slices of lists -/
abbrev rSlLc (K : PySem.W.Frag) := rSlL K
end
end DL
end

section
set_option maxRecDepth 100000
set_option maxHeartbeats 4000000
/-! Defs of the text: what stands where, calls by name, raising. -/
namespace DL
open PySem PySem.Spec PyProof.Rows L2

/-- the built-in names that no own name hides; the own error -/
structure Txt (K : PySem.W.Frag) (mg : Str → Option Value) (C : Addr) : Prop where
  abs : mg "abs" = none
  all : mg "all" = none
  any : mg "any" = none
  bool : mg "bool" = none
  dict : mg "dict" = none
  enumerate : mg "enumerate" = none
  int : mg "int" = none
  isinstance : mg "isinstance" = none
  len : mg "len" = none
  list : mg "list" = none
  min : mg "min" = none
  range : mg "range" = none
  set : mg "set" = none
  sorted : mg "sorted" = none
  str : mg "str" = none
  tuple : mg "tuple" = none
  zip : mg "zip" = none
  valueError : mg "ValueError" = none
  can : mg "CanNot" = some (.ref C)
  exc : PySem.W.excIn K C He.veBase "ValueError.__new__" = true
  kp : PySem.W.keepIn K (.ref C) = true
  sub : PySem.W.subIn K (.ref C) (.type "BaseException") = some true
  ty : PySem.W.typeIn K (.ref C) = some (.type "type")
  exm : PySem.W.exmOne K (.ref C) (.ref C) = some true

/-- a def of the top, where it stands -/
structure DefAt (K : PySem.W.Frag) (mg : Str → Option Value) (x : Str) (st : Stmt) (f : Addr) (fd : FuncData) : Prop where
  fn : FunD K x x (defArgs st) (defBody st) (defScope st) [] [] f fd
  mg : mg x = some (.ref f)

/-- a def with its promise -/
structure CalD (P : Program) (w : World) (K : PySem.W.Frag) (mg : Str → Option Value) (base : Heap) (k : Nat) (x : Str) (ps : List Str) (sp : Sp) : Prop where
  ex : ∃ (f : Addr) (fd : FuncData), FnOk P w K mg base (L2.CX P w) k f fd ps sp ∧ mg x = some (.ref f) ∧ PySem.W.keepIn K (.ref f) = true ∧ Binds K fd ps []
/-- .. by keywords, in another order: g puts the keywords' values ks in the parameters' order -/
structure KwD (K : PySem.W.Frag) (mg : Str → Option Value) (x : Str) (ps ks : List Str) (g : {α : Type} → List α → List α) : Prop where
  ex : ∀ (f : Addr), mg x = some (.ref f) → ∃ fd : FuncData, True

section
variable {X : Cx} {k j : Nat} {x : Str} {ps : List Str} {sp : Sp} {p pos : Pos} {e : Expr} {es : List Expr} {t : TA} {E : XK}
theorem pe_d (c : CalD X.prog X.w X.K X.mg X.base k x ps sp) (hr : Room j X.A) (hk : k ≤ j) (hg : Gl X x) (ha : PA X (e :: es) t)
    (hdb : (x == ("__debug__" : Str)) = false := by decide) (he : starEach (e :: es) X.env = (false, eval e X.env) :: starEach es X.env := by rfl) (hpl : (backTo pos (starEach es X.env)).any (·.1) = false := by rfl) :
    PE X (.Call (.Name x p) (e :: es) [] pos) (tCall sp [] E0 t) := by
  obtain ⟨f, fd, F, hm, kp, b⟩ := c.ex
  exact pe_call F (hr.mono hk) hg hm kp b .nil passL ha hdb he hpl
theorem pe_d0 (c : CalD X.prog X.w X.K X.mg X.base k x ps sp) (hr : Room j X.A) (hk : k ≤ j) (hg : Gl X x) (hdb : (x == ("__debug__" : Str)) = false := by decide) :
    PE X (.Call (.Name x p) [] [] pos) (tCall sp [] E0 tNil) := by
  obtain ⟨f, fd, F, hm, kp, b⟩ := c.ex
  exact pe_call0 F (hr.mono hk) hg hm kp b .nil passL hdb
/-- .. that may raise, out of this def -/
theorem pe_dX (c : CalD X.prog X.w X.K X.mg X.base k x ps sp) (hr : Room j X.A) (hk : k ≤ j) (hg : Gl X x) (hx : Passes (L2.CX X.prog X.w) X E) (ha : PA X (e :: es) t)
    (hdb : (x == ("__debug__" : Str)) = false := by decide) (he : starEach (e :: es) X.env = (false, eval e X.env) :: starEach es X.env := by rfl) (hpl : (backTo pos (starEach es X.env)).any (·.1) = false := by rfl) :
    PE X (.Call (.Name x p) (e :: es) [] pos) (tCall sp [] E t) := by
  obtain ⟨f, fd, F, hm, kp, b⟩ := c.ex
  exact pe_call F (hr.mono hk) hg hm kp b .nil hx ha hdb he hpl
/-- raise C() -/
theorem pmk_own0 {C : Addr} {bmB : List Value} {B newId initId : String} (F : ExcBaseFacts B newId initId bmB) (q : PySem.W.excIn X.K C bmB newId = true) (gC : X.mg x = some (.ref C))
    (kC : PySem.W.keepIn X.K (.ref C) = true) (r : Raises X (.ref C)) (hg : Gl X x) (hdb : (x == ("__debug__" : Str)) = false := by decide) :
    PMk X (.Call (.Name x p) [] [] pos) (fun _ H Q => Q (.ref C) none H) := by
  intro pins s σ H Q I h
  refine wpAny_Call_Name_kw (ld_glob I hg gC ?_ hdb)
  refine PySem.W.callWith_K0 I.kIn kC ?_
  show wpAny _ _ (call (.ref C) []) _ _ _
  obtain ⟨bm, N, nm, qn, bs, hdct, sn, sub, ab, col, dd, k0, k1, k2, k3, k5, mN, hC, hN, hni, T⟩ := exc_obj I.kIn q
  refine wpAny_call_exc_subT F T hC hN hni (fun h' e hm => ?_) (Nat.zero_le _)
  exact mk_of I hm r h (I.hok.gone hm.new)
theorem ps_can {C : Addr} {W : WX} {pos' : Pos} (T : Txt X.K X.mg C) (hc : X.calm = true) (tk : Takes X W) (hg : Gl X "CanNot") : PS X (.Raise (some (.Call (.Name "CanNot" p) [] [] pos)) none pos') (fun _ σ H => W (.ref C) none σ H) :=
  ps_raise hc tk (pmk_own0 PySem.F.excBase_ValueError T.exc T.can T.kp (raises_own T.sub T.ty) hg)
end

section
variable {P : Program} {w : World} {K : PySem.W.Frag} {mg : Str → Option Value} {base : Heap} {x : Str} {st : Stmt} {f : Addr} {fd : FuncData} {N ps : List Str} {k : Nat} {C : Addr} {rel : List D → Option D → Prop} {relT : D → List D → D → D → Prop}
/-- how positional arguments bind: h by «fun _ _ _ _ _ _ us hl => match us, hl with | [_, _], _ => rfl» -/
abbrev BindH (x : Str) (st : Stmt) (ps : List Str) : Prop := ∀ (kV doc pm : Value) (an : Option Addr) (cdv ct : Value) (us : List Value), us.length = ps.length → bindArgs (PySem.W.fnOf x x (defArgs st) (defBody st) (defScope st) .none kV doc pm an cdv ct) ⟨us, []⟩ = pure (ps.zip us)
abbrev cX (P : Program) (w : World) (K : PySem.W.Frag) (mg : Str → Option Value) (base : Heap) (N : List Str) (x : Str) (st : Stmt) (f : Addr) (cdv : Value) (A : Around) (outer : List Env) (s : Shared) (H : Hp) (E : XK) : Cx :=
  cxOf (L2.CX P w) P w K mg base N x (defScope st) f cdv A outer s H E
/-- a def that raises nothing -/
theorem mkCal (Dx : DefAt K mg x st f fd) (S : FnScope N ps (defScope st)) (hb : BindH x st ps) (hN : ps.length ≤ N.length)
    (body : ∀ (f : Addr) (cdv : Value) (A : Around) (outer : List Env) (s : Shared) (H : Hp) (E : XK), Room k (A.deeper (envOfC x (defScope st) s.heap.objs.size f cdv)) →
      ∃ ts, PSs (cX P w K mg base N x st f cdv A outer s H E).nox (defBody st) ts ∧ ∀ ds r, ds.length = ps.length → rel ds r → Run C E ts (ds.map Sl.va ++ List.replicate (N.length - ps.length) .un) (PoF r)) : CalD P w K mg base (k + 1) x ps (spD C ps.length rel) := by
  refine ⟨f, fd, Dx.fn.ok S (spD_len rfl) fun cdv A outer s H vs Q E hr h => ?_, Dx.mg, Dx.fn.kp, Dx.fn.bindsN hb⟩
  obtain ⟨G, ds, r, sg, rs, hn, hrel, hQ, hE⟩ := h
  obtain ⟨ts, hp, hq⟩ := body f cdv A outer s H E hr
  refine ⟨ts, hp.nox, body_run (N := N) sg rs (by rw [rs.length, hn]; exact hN) hQ hE ?_⟩
  have z := hq ds r hn hrel
  rw [← hn, ← rs.length] at z
  exact z
/-- .. that may raise: the body's reading chosen by what it does -/
theorem mkCalX (Dx : DefAt K mg x st f fd) (S : FnScope N ps (defScope st)) (hb : BindH x st ps) (hN : ps.length ≤ N.length)
    (body : ∀ (f : Addr) (cdv : Value) (A : Around) (outer : List Env) (s : Shared) (H : Hp) (E : XK), Room k (A.deeper (envOfC x (defScope st) s.heap.objs.size f cdv)) →
      ∀ ds r, ds.length = ps.length → rel ds r → ∃ ts, PSs (cX P w K mg base N x st f cdv A outer s H E) (defBody st) ts ∧ Run C E ts (ds.map Sl.va ++ List.replicate (N.length - ps.length) .un) (PoF r)) : CalD P w K mg base (k + 1) x ps (spD C ps.length rel) := by
  refine ⟨f, fd, Dx.fn.ok S (spD_len rfl) fun cdv A outer s H vs Q E hr h => ?_, Dx.mg, Dx.fn.kp, Dx.fn.bindsN hb⟩
  obtain ⟨G, ds, r, sg, rs, hn, hrel, hQ, hE⟩ := h
  obtain ⟨ts, hp, z⟩ := body f cdv A outer s H E hr ds r hn hrel
  refine ⟨ts, hp, body_run (N := N) sg rs (by rw [rs.length, hn]; exact hN) hQ hE ?_⟩
  rw [← hn, ← rs.length] at z
  exact z
/-- .. that changes its first argument, a list -/
theorem mkCalT {n : Nat} (Dx : DefAt K mg x st f fd) (S : FnScope N ps (defScope st)) (hb : BindH x st ps) (hn : ps.length = n + 1) (hN : ps.length ≤ N.length)
    (body : ∀ (f : Addr) (cdv : Value) (A : Around) (outer : List Env) (s : Shared) (H : Hp) (E : XK), Room k (A.deeper (envOfC x (defScope st) s.heap.objs.size f cdv)) →
      ∃ ts, PSs (cX P w K mg base N x st f cdv A outer s H E).nox (defBody st) ts ∧ ∀ s0 ds s1 d, ds.length = n → relT s0 ds s1 d → Run C E ts (.ti s0 :: (ds.map Sl.va ++ List.replicate (N.length - ps.length) .un)) (PoT s1 d)) : CalD P w K mg base (k + 1) x ps (spT n relT) := by
  refine ⟨f, fd, Dx.fn.ok S (spT_len hn) fun cdv A outer s H vs Q E hr h => ?_, Dx.mg, Dx.fn.kp, Dx.fn.bindsN hb⟩
  obtain ⟨t, G, us, ds, s0, s1, d, rfl, sg, gt, c, rs, hl, hrel, hQ⟩ := h
  obtain ⟨ts, hp, hq⟩ := body f cdv A outer s H E hr
  have hu : us.length = n := rs.length.trans hl
  refine ⟨ts, hp.nox, body_runT (C := C) (E := E) (N := N) sg gt c rs (by rw [hu, ← hn]; exact hN) hQ ?_⟩
  have z := hq s0 ds s1 d hl hrel
  rw [hn, ← hu] at z
  exact z
end
end DL
end

section
set_option maxRecDepth 100000
set_option maxHeartbeats 4000000
/-! The rules with the written part named: what they read does not depend on a block. -/
namespace DL
open PySem PySem.Spec PyProof.Rows L2
section
variable {X : Cx} (K : PySem.W.Frag)
theorem ixT (h : X.K = K := by rfl) : IxR X (rIxT K) := h ▸ ix_tup
theorem ixL (h : X.K = K := by rfl) : IxR X (rIxL K) := h ▸ ix_list
theorem opIn (h : X.K = K := by rfl) : OpR X (compareOp .In) (rIn K false) := h ▸ op_in_seq
theorem opNi (h : X.K = K := by rfl) : OpR X (compareOp .NotIn) (rIn K true) := h ▸ op_notIn_seq
theorem opEqD {k : Nat} (hr : Room k X.A) (h : X.K = K := by rfl) : OpR X (compareOp .Eq) (rEqD K) := h ▸ op_eqD hr.units
theorem opNeD {k : Nat} (hr : Room k X.A) (h : X.K = K := by rfl) : OpR X (compareOp .NotEq) (rNeD K) := h ▸ op_neD hr.units
theorem opCatT (h : X.K = K := by rfl) : OpR X (binaryOp .Add) (rCatA K) := h ▸ op_catA
abbrev rLen (K : PySem.W.Frag) : List V → Hp → VK → Prop := fun xs H Q => ∃ p ys, xs = [.ref p] ∧ (SqL K H p ys ∨ SqT K H p ys) ∧ Q (.int ys.length) H
abbrev rTupOf (K : PySem.W.Frag) : List V → Hp → VK → Prop := fun xs H Q => ∃ p ys, xs = [.ref p] ∧ ((SqL K H p ys ∧ ∀ l, H l = none → Q (.ref l) (upd H l (.tup ys))) ∨ (SqT K H p ys ∧ Q (.ref p) H))
abbrev rLstOf (K : PySem.W.Frag) : List V → Hp → VK → Prop := fun xs H Q => ∃ p ys, xs = [.ref p] ∧ (SqL K H p ys ∨ SqT K H p ys) ∧ ∀ l, H l = none → Q (.ref l) (upd H l (.lst ys))
theorem crLen (h : X.K = K := by rfl) : CallR X (.builtin "len") (rLen K) := h ▸ call_len_seq
theorem crTup (h : X.K = K := by rfl) : CallR X (.type "tuple") (rTupOf K) := h ▸ call_tuple_of
theorem crLst (h : X.K = K := by rfl) : CallR X (.type "list") (rLstOf K) := h ▸ call_list_of
theorem crAny (h : X.K = K := by rfl) (hc : X.calm = true := by rfl) : CallR X (.builtin "any") (rAny K) := h ▸ cr_any hc
theorem crAll (h : X.K = K := by rfl) (hc : X.calm = true := by rfl) : CallR X (.builtin "all") (rAll K) := h ▸ cr_all hc
theorem crSorted (h : X.K = K := by rfl) : CallR X (.builtin "sorted") (rSortedI K) := h ▸ cr_sortedI
theorem crIsi (h : X.K = K := by rfl) : CallR X (.builtin "isinstance") (rIsi K) := h ▸ call_isi
theorem crIsiT (h : X.K = K := by rfl) : CallR X (.builtin "isinstance") (rIsiT K) := h ▸ call_isiT
theorem slL (h : X.K = K := by rfl) : SlR X (rSlL K) := h ▸ sl_list
theorem slT (h : X.K = K := by rfl) : SlR X (rSlA K) := h ▸ sl_tupA
theorem piL {tg l : Expr} {tl : TE} (hl : PE X l tl) (h : X.K = K := by rfl) : PI X tg l (iList K tl) := h ▸ pi_list hl
theorem piT {tg l : Expr} {tl : TE} (hl : PE X l tl) (h : X.K = K := by rfl) : PI X tg l (iTup K tl) := h ▸ pi_tup hl
theorem pgT {es : List Expr} {k : Nat} {t : TGs} {n : Nat} {pos : Pos} (hp : PGs X es t) (hn : (assignEach es X.env).length = n := by rfl) (hst : (assignEach es X.env).findIdx? (·.1) = none := by rfl) (h : X.K = K := by rfl) (hc : X.calm = true := by rfl) : PG X (.Tuple es k pos) (gTup K n t) := h ▸ pg_tup hc hp hn hst
theorem bmL {o e : Expr} {es : List Expr} {to : TE} {t : TA} {name : Str} {apos cpos : Pos} {id : String} {r : V → List V → Hp → VK → Prop} (slot : Slot "list" name id) (hty : typeOf (.builtin id) = pure (.type "method_descriptor")) (hm : MtR X id r) (ho : PE X o to) (ha : PA X (e :: es) t)
    (hbase : attributeBase o name X.env (eval o X.env) = eval o X.env := by rfl)
    (hfew : ((backTo cpos (starEach (e :: es) X.env)).all (fun x => !x.1) && (backToKw cpos (keywordEach [] X.env)).all (fun x => x.1.isSome)
      && decide ((e :: es).length + ([] : List Keyword).length + (if ([] : List Keyword).isEmpty then 0 else 1) < 30)) = true := by rfl)
    (hline : (apos.endLine == cpos.line) = true := by rfl) (hs : starEach (e :: es) X.env = (false, eval e X.env) :: starEach es X.env := by rfl) (hplain : (backTo cpos (starEach es X.env)).any (·.1) = false := by rfl) (h : X.K = K := by rfl) :
    PE X (.Call (.Attribute o name apos) (e :: es) [] cpos) (tBM K "list" r to t) := h ▸ pe_bm PySem.F.plainAttrs_list slot hty hm ho ha hbase hfew hline hs hplain
theorem bmL0 {o : Expr} {to : TE} {name : Str} {apos cpos : Pos} {id : String} {r : V → List V → Hp → VK → Prop} (slot : Slot "list" name id) (hty : typeOf (.builtin id) = pure (.type "method_descriptor")) (hm : MtR X id r) (ho : PE X o to)
    (hbase : attributeBase o name X.env (eval o X.env) = eval o X.env := by rfl) (hline : (apos.endLine == cpos.line) = true := by rfl) (h : X.K = K := by rfl) : PE X (.Call (.Attribute o name apos) [] [] cpos) (tBM0 K "list" r to) := h ▸ pe_bm0 PySem.F.plainAttrs_list slot hty hm ho hbase hline
end
end DL
end

section
set_option maxRecDepth 100000
set_option maxHeartbeats 4000000
/-! Webs as plain data, and what the program's defs compute. -/
namespace K17
open MN
structure Web where
  many : Nat
  gs : List (Nat × Nat)
namespace Web
variable (w : Web)
def g (k : Nat) : Nat × Nat := w.gs.getD k (0, 0)
structure Ok : Prop where
  pos : 0 < w.many
  small : w.many ≤ 100
  few : w.gs.length ≤ 100
  ends : ∀ p ∈ w.gs, p.1 < w.many ∧ p.2 < w.many ∧ p.1 ≠ p.2
end Web
/-- a lot of a web -/
structure Lot (w : Web) (l : List Nat) : Prop where
  lt : ∀ g ∈ l, g < w.gs.length
  asc : l.Pairwise (· < ·)

/-! ### webs -/
def unwantedIn (w : Web) : List Nat := (List.range w.many).filter fun p => !decide (p ∈ w.gs.map (·.1))
/-! ### parts -/
def guestsIn (w : Web) (lot part : List Nat) : List Nat := lot.filter fun g => decide ((w.g g).1 ∈ part)
def othersIn (w : Web) (lot : List Nat) : List Nat := (List.range w.gs.length).filter fun g => !decide (g ∈ lot)
/-- where the guests of a lot lead from a place -/
def adj1 (w : Web) (p g : Nat) : List (Nat × Nat) := (if (w.g g).1 = p then [(g, (w.g g).2)] else []) ++ (if (w.g g).2 = p then [(g, (w.g g).1)] else [])
def adj (w : Web) (lot : List Nat) (p : Nat) : List (Nat × Nat) := lot.flatMap (adj1 w p)
/-- a place more, if it is not there -/
def put (row : List Nat) (q : Nat) : List Nat := if q ∈ row then row else row ++ [q]
def bfs (nb : Nat → List Nat) : Nat → List Nat → Nat → List Nat
  | 0, row, _ => row
  | f + 1, row, spot => if spot < row.length then bfs nb f ((nb (row.getD spot 0)).foldl put row) (spot + 1) else row
def nbr (w : Web) (lot : List Nat) (p : Nat) : List Nat := (adj w lot p).map (·.2)
def partFrom (w : Web) (lot : List Nat) (p : Nat) : List Nat := srt (bfs (nbr w lot) (w.many + 1) [p] 0)
def partsStep (w : Web) (lot : List Nat) (s : List (List Nat) × List Nat) (p : Nat) : List (List Nat) × List Nat :=
  if p ∈ s.2 then s else (s.1 ++ [partFrom w lot p], (partFrom w lot p).foldl put s.2)
def partsIn (w : Web) (lot : List Nat) : List (List Nat) := ((List.range w.many).foldl (partsStep w lot) ([], [])).1
/-- a way: pairs (guest, place) -/
abbrev Way := List (Nat × Nat)
def pushStep (barred here : Nat) (row : Way) (s : List (Way × Nat) × List Nat) (e : Nat × Nat) : List (Way × Nat) × List Nat :=
  if e.1 ≠ barred ∧ e.2 ∉ s.2 then (s.1 ++ [(row ++ [(e.1, here)], e.2)], s.2 ++ [e.2]) else s
def wayLoop (ad : Nat → List (Nat × Nat)) (goal barred : Nat) : Nat → List (Way × Nat) → List Nat → Way
  | 0, _, _ => []
  | f + 1, rows, seen => match rows.getLast? with
    | none => []
    | some (row, here) => if here = goal then row else
      let s := (ad here).foldl (pushStep barred here row) (rows.dropLast, seen)
      wayLoop ad goal barred f s.1 s.2
def wayFrom (w : Web) (lot : List Nat) (a b g : Nat) : Way := wayLoop (adj w lot) b g (w.many + 1) [([], a)] [a]
def roundLoop (w : Web) : List Nat → List Nat → Option Way
  | _, [] => none
  | ahead, g :: rest => if (w.g g).2 ∈ partFrom w ahead (w.g g).1 then some (wayFrom w ahead (w.g g).1 (w.g g).2 g ++ [(g, (w.g g).2)]) else roundLoop w (ahead ++ [g]) rest
def roundOf (w : Web) (lot part : List Nat) : Option Way := roundLoop w [] (guestsIn w lot part)
/-! ### lots -/
def metBy (w : Web) (lot : List Nat) : List Nat := lot.flatMap fun g => [(w.g g).1, (w.g g).2]
def spareIn (w : Web) (lot : List Nat) : List Nat := (unwantedIn w).filter fun p => !decide (p ∈ metBy w lot)
def isTree (w : Web) (others part : List Nat) : Bool := decide (((guestsIn w others part).length : Int) = (part.length : Int) - 1)
def hasAny (part spare : List Nat) : Bool := part.any fun p => decide (p ∈ spare)
def isBad (w : Web) (others spare part : List Nat) : Bool := if isTree w others part then !hasAny part spare else decide (part.length < (guestsIn w others part).length)
def badIn (w : Web) (lot : List Nat) : List (List Nat) := (partsIn w (othersIn w lot)).filter (isBad w (othersIn w lot) (spareIn w lot))
def nextTo (w : Web) (guests known : List Nat) : List Nat := guests.filter fun g => decide ((w.g g).1 ∈ known) != decide ((w.g g).2 ∈ known)
def grownLoop (w : Web) : Nat → List Nat → List Nat → List Nat → List Nat
  | 0, _, found, _ => found
  | f + 1, known, found, left => match nextTo w left known with
    | [] => found
    | g :: _ => grownLoop w f (put (put known (w.g g).1) (w.g g).2) (found ++ [g]) (left.filter fun h => !decide (h = g))
def grownFrom (w : Web) (guests first : List Nat) : List Nat := grownLoop w (guests.length + 1) (first.foldl put []) [] guests
def seatedRound (w : Web) (way : Way) : List Nat := match way with
  | [] => []
  | (first, place) :: r => if (w.g first).1 = place then first :: (r.reverse.map (·.1)) else way.map (·.1)
def keptIn (w : Web) (others part frees : List Nat) : List Nat :=
  if isTree w others part then grownFrom w (guestsIn w others part) (part.filter fun p => decide (p ∈ frees)) else
    let way := (roundOf w others part).getD []
    seatedRound w way ++ grownFrom w ((guestsIn w others part).filter fun g => !decide (g ∈ seatedRound w way)) (way.map (·.2))
def orderBy (w : Web) (lot frees : List Nat) : List Nat := (partsIn w (othersIn w lot)).flatMap (fun part => keptIn w (othersIn w lot) part frees) ++ lot
def treesOf (w : Web) (others : List Nat) : List (List Nat) := (partsIn w others).filter (isTree w others)
def freesOf (w : Web) (lot : List Nat) : List Nat := (treesOf w (othersIn w lot)).map fun part => (part.filter fun p => decide (p ∈ spareIn w lot)).headD 0
def orderInLot (w : Web) (lot : List Nat) : List Nat := orderBy w lot (freesOf w lot)
def sparePlaces (w : Web) (lot : List Nat) : List Nat := srt ((treesOf w (othersIn w lot)).flatMap fun part => part.filter fun p => decide (p ∈ spareIn w lot))
/-! ### together -/
def isBarring (w : Web) (others spare met part : List Nat) : Bool := isTree w others part && hasAny part met && !hasAny part spare
def barringIn (w : Web) (lot : List Nat) : List (List Nat) := (partsIn w (othersIn w lot)).filter (isBarring w (othersIn w lot) (spareIn w lot) (metBy w lot))
/-- a set, ascending -/
def uniq : List Nat → List Nat
  | [] => []
  | a :: l => if a ∈ uniq l then uniq l else a :: uniq l
def setOf (l : List Nat) : List Nat := srt (uniq l)
def grownMore (w : Web) (others part : List Nat) : List Nat :=
  if part.length < (guestsIn w others part).length then (guestsIn w others part).filter fun g => !decide (g ∈ keptIn w others part []) else []
def lotGrown (w : Web) (lot : List Nat) : List Nat := setOf (lot ++ (partsIn w (othersIn w lot)).flatMap (grownMore w (othersIn w lot)))
def isNever (w : Web) (g : Nat) : Bool := !(barringIn w [g]).isEmpty
def neverWithout (w : Web) : List Nat := (List.range w.gs.length).filter (isNever w)
def rivals (w : Web) (g : Nat) : List Nat := if isNever w g then [] else (List.range w.gs.length).filter fun h => !decide (h = g) && (!isNever w h && !(barringIn w (setOf [g, h])).isEmpty)
end K17
end

section
set_option maxRecDepth 100000
set_option maxHeartbeats 4000000
/-! enumerate of a tuple; a list extended by a tuple. -/
namespace DL
open PySem PySem.Spec PyProof.Rows L2

/-! ### enumerate(v), by what iter(v) makes -/
/-- the heap with v's iterator o and the enumerate over it -/
abbrev enumHeap (h : Heap) (o : Obj) : Heap := (h.push o).push { cls := .type "enumerate", data := .fields #[.none, .bool false, .ref h.objs.size, rawInt 0, .none, .none] }
theorem enumHeap_self (h : Heap) (o : Obj) : IsEnum (enumHeap h o) (h.objs.size + 1) h.objs.size 0 .none := by
  have z : (enumHeap h o).get? (h.push o).objs.size = some _ := Heap.get?_push_size _ rfl
  rwa [Heap.size_push] at z
theorem enumHeap_old {h : Heap} {o ob : Obj} {b : Addr} (e : h.get? b = some ob) : (enumHeap h o).get? b = some ob := Heap.get?_push_of_some _ (Heap.get?_push_of_some _ e)
theorem enum_made {v : Value} {o : Obj} {H : Heap → Prop} (B : Begins v o H) :
    Meets (Builtin.«enumerate.__new__» ⟨[.type "enumerate", v], []⟩) (fun _ R s => H s.heap ∧ R (.ok (.ret (.ref (s.heap.objs.size + 1)))) { s with heap := enumHeap s.heap o }) :=
  .of_wp fun prog w A R s h => by
    obtain ⟨hp, g, d, tk, os⟩ := s
    obtain ⟨h1, h⟩ := h
    have it {A' : Around} {E : Value → Shared → Prop} {Q : Value → Shared → Prop} := B.iter prog w A' E ⟨hp, g, d, tk, os⟩ Q h1
    have self_enum := sub_enumerate
    have hz : (hp.push o).objs.size = hp.objs.size + 1 := Heap.size_push ..
    wp_walk using it
    refine wpAny_stack_any fun st => wpAny_pure ?_
    split
    rename_i c _ _ _ _ _
    cases (c == Value.type "enumerate")
    all_goals
      wp_walk using it
      exact ⟨_, rfl, hz ▸ h⟩
section
variable {prog : Program} {w : World} {A : Around} {E : Value → Shared → Prop} {s : Shared}
theorem enum_call {v : Value} {o : Obj} {H : Heap → Prop} {Q : Value → Shared → Prop} (B : Begins v o H) (h1 : H s.heap)
    (h : Q (.ref (s.heap.objs.size + 1)) { s with heap := enumHeap s.heap o }) : wpAny (model prog w) A (call (.type "enumerate") [v]) Q E s :=
  callType_new F.called_enumerate (by decide) (F.typeCall_enumerate_1 _) (F.newCall_enumerate_1 _) (fun obj => F.args_object_init_2 obj _) F.entry_enumerate_new (enum_made B)
    ⟨h1, ⟨_, enumHeap_self _ _, rfl⟩, h⟩
end
/-- the tuple at a, each item in a new pair -/
def IteT (K : PySem.W.Frag) (a : Addr) : It :=
  ⟨fun i H => ∃ (xs : List V) (x : V), SqT K H a xs ∧ xs[i]? = some x, fun i H v H' => ∃ T x, v = .ref T ∧ H T = none ∧ H' = upd H T (.tup [.int (i : Nat), x]) ∧ ∀ xs, SqT K H a xs → xs[i]? = some x, fun i H => ∃ xs : List V, SqT K H a xs ∧ xs.length = i⟩
/-- the walk over the items with their numbers, by the library -/
theorem walk_enumT {prog : Program} {w : World} {A : Around} (hh : A.in1.handled = none) {a e it : Addr} (items : Array Value) (h1 : e ≠ it) (h2 : a ≠ e) (h3 : a ≠ it) :
    WalksT prog w A e (e :: [it, a]) [e, it] items.size (fun i vals => ∃ t x, items[i]? = some x ∧ vals = #[.int (0 + (i : Int)) t, x])
      (fun i h => (∃ old, IsEnum h e it (0 + (i : Int)) old) ∧ (h.IsTupleIter it a i ∧ h.IsTuple a items))
      (fun i T h => (∃ x, IsEnumOut h e it (0 + (i : Int) + 1) x T) ∧ (h.IsTupleIter it a (i + 1) ∧ h.IsTuple a items) ∧ T ≠ e ∧ T ≠ it) :=
  WalksT.enumFrom 0 (PySem.Draws.tuple hh it a h3 items) e h1 (by simp [h1, Ne.symm h2]) (by simp)
/-- how it stands at a turn -/
structure EnT (a e it : Addr) (i : Nat) (h : Heap) : Prop where
  en : ∃ old, IsEnum h e it (0 + (i : Int)) old
  tu : h.IsTupleIter it a i
  n1 : e ≠ it
  n2 : a ≠ e
  n3 : a ≠ it
theorem EnT.live {a e it b : Addr} {i : Nat} {h : Heap} (st : EnT a e it i h) (hb : b ∈ [e, it]) : ∃ o, h.get? b = some o ∧ ∀ v, o.data ≠ .cell v := by
  obtain ⟨old, he⟩ := st.en
  obtain ⟨o, ho, _, hd⟩ := st.tu
  have two : b = e ∨ b = it := by simpa using hb
  exact two.elim (fun z => z ▸ ⟨_, he, by intro v q; cases q⟩) fun z => z ▸ ⟨o, ho, by intro v q; rw [hd] at q; cases q⟩
theorem EnT.go_on {a e it : Addr} {i : Nat} {h h' : Heap} (st : EnT a e it i h) (k : ∀ b ∈ [e, it], ∀ o, h.get? b = some o → h'.get? b = some o) : EnT a e it i h' :=
  ⟨st.en.imp fun _ he => k e (by simp) _ he, st.tu.at fun o q => k it (by simp) o q, st.n1, st.n2, st.n3⟩
theorem turn_enumT {P : Program} {w : World} {K : PySem.W.Frag} {elts : List Expr} {kk : Nat} {tpos : Pos} (a e it : Addr) :
    Turn P w K (.Tuple elts kk tpos) (IteT K a) [e, it] e (EnT a e it) where
  mem := List.mem_cons_self
  obj := fun _ _ st _ hb => st.live hb
  keep := fun _ _ _ st k => st.go_on k
  item := by
    rintro X rfl rfl rfl hc i pins s σ H E I hf st ⟨xs, x, hq, hx⟩
    obtain ⟨its, rv, p, _⟩ := I.tuple hq
    obtain ⟨u, hu, ru⟩ := rv.get hx
    have W := walk_enumT (prog := X.prog) (w := X.w) (A := X.A) (I.ok.hd hc) its.toArray st.n1 st.n2 st.n3
    have lt : i < its.toArray.size := by
      rw [List.size_toArray]
      exact (List.getElem?_eq_some_iff.mp hu).1
    refine W.item i s _ E lt ⟨st.en, st.tu, p⟩ fun T vals h1 tk ⟨t, y, hy, ev⟩ hT iT mid k1 => ⟨.ref T, rfl, W.go elts kk tpos i T _ _ E mid fun h2 ⟨en2, tu2, p2⟩ k2 => ?_⟩
    obtain rfl : u = y := Option.some.inj (hu.symm.trans ((List.getElem?_toArray ..).symm.trans hy))
    subst ev
    have far : ∀ b ∈ [e, it], b ≠ T := fun b hb z => W.apart i T h1 mid (z ▸ hb)
    have iT2 : h2.IsTuple T #[.int (0 + (i : Int)) t, u] := iT.at fun o q => k2 T o (W.apart i T h1 mid) q
    rw [Int.zero_add] at iT2
    refine ⟨.ref T, upd H T (.tup [.int (i : Nat), x]), I.turnedNew (t' := tk) (ch := [e, it]) (fun b ob hb q => k2 b ob hb (k1 b ob hb q)) hf hT ⟨(by show 2 ≤ sizeLine; decide), [.int i t, u], .cons ⟨t, rfl⟩ (.cons ru .nil), iT2⟩, rfl,
      ⟨T, x, rfl, I.hok.fresh hT, rfl, fun ys hy => I.tuple_inj hy hq ▸ hx⟩, ⟨en2, tu2, st.n1, st.n2, st.n3⟩, fun b hb => ?_⟩
    rw [upd_ne (far b hb)]
    exact (hf b hb).1
  done := by
    rintro X rfl rfl rfl hc i pins s σ H E I hf st ⟨xs, hq, hx⟩
    obtain ⟨its, rv, p, _⟩ := I.tuple hq
    obtain rfl : i = its.toArray.size := by rw [List.size_toArray, ← rv.length, hx]
    exact (walk_enumT (I.ok.hd hc) its.toArray st.n1 st.n2 st.n3).done s _ E ⟨st.en, st.tu, p⟩ fun h' tk k => ⟨rfl, I.turnedL (t' := tk) k hf⟩
  self := fun A i s Q E st h => st.en.elim fun _ he => wpAny_pyIter_enum he h
def iEnumT (K : PySem.W.Frag) (ta : TA) : TI := fun σ H R => ta σ H fun vs H1 => ∃ a xs, vs = [.ref a] ∧ SqT K H1 a xs ∧ R (IteT K a) H1
theorem pi_enumT {X : Cx} {e : Expr} {ta : TA} {p pos tpos : Pos} {elts : List Expr} {kk : Nat} (K : PySem.W.Frag) (hg : Gl X "enumerate") (hm : X.mg "enumerate" = none) (ha : PA X [e] ta) (hs : starEach [e] X.env = [(false, eval e X.env)] := by rfl) (hK : X.K = K := by rfl) :
    PI X (.Tuple elts kk tpos) (.Call (.Name "enumerate" p) [e] [] pos) (iEnumT K ta) where
  run := fun pins s σ H R I h => Call_ (ld_blt I hg hm boot_enumerate (PyProof.Rows.callWith_type1 (thn (ha.run pos pins s σ H _ I h) fun us s1 ⟨vs, H1, I1, r1, a, xs, ex, hq, q⟩ => by
    subst hK ex
    obtain ⟨u, rfl, ru⟩ := vals1 r1
    cases ru
    obtain ⟨its, _, pt, _⟩ := I1.tuple hq
    have lt : a < s1.heap.objs.size := let ⟨_, z, _⟩ := pt; Heap.lt_size z
    refine enum_call (begins_tuple a its.toArray) pt (wpAny_pyIter_enum (enumHeap_self _ _) ?_)
    have st : EnT a (s1.heap.objs.size + 1) s1.heap.objs.size 0 (enumHeap s1.heap { cls := .type "tuple_iterator", data := .fields #[.ref a, .int 0 0] }) :=
      ⟨⟨.none, enumHeap_self _ _⟩, ⟨_, Heap.get?_push_of_some _ (Heap.get?_push_size _ rfl), rfl, rfl⟩, Nat.succ_ne_self _, Nat.ne_of_lt (Nat.lt_succ_of_lt lt), Nat.ne_of_lt lt⟩
    exact ⟨_, _, _, _, H1, rfl, I1.kept (t' := s1.toks) fun _ _ => enumHeap_old, turn_enumT a _ _, st, fun b hb => by
      have new : s1.heap.objs.size ≤ b := by
        rcases List.mem_cons.mp hb with rfl | z
        · exact Nat.le_succ _
        · exact Nat.le_of_eq (List.mem_singleton.mp z).symm
      exact I1.fpOk new (I1.hok.fresh new), q⟩) hs rfl))

/-! ### xs.extend(tuple) -/
theorem extend_tup (l : Addr) (items : Array Value) (n : Nat) (b : Addr) (items2 : Array Value) (hs0 : ¬(!items.isEmpty && Builtin.List.listTooLong (items.size + items2.size)) = true) (hs1 : items.size ≤ sizeLine) (hs2 : items.size + items2.size ≤ sizeLine + 1) :
    Meets (Builtin.«list.extend» ⟨[.ref l, .ref b], []⟩) (fun _ R s => s.heap.get? l = some { cls := .type "list", dict := none, data := .seq items n, slots := #[] } ∧ s.heap.IsTuple b items2 ∧ R (.ok (.ret Value.none)) { s with heap := s.heap.update l (Obj.mapSeq fun x => x ++ items2), toks := s.toks }) :=
  .of_wp fun prog w A R s h => by
    obtain ⟨hp, g, d, tk, os⟩ := s; obtain ⟨hl, ⟨⟨bc, bd, bdt, bs⟩, hb, hbc, n2, hbd⟩, h⟩ := h
    replace hbc : bc = .type "tuple" := hbc
    replace hbd : bdt = .seq items2 n2 := hbd
    subst hbc hbd
    replace hb : hp.get? b = some { cls := .type "tuple", dict := bd, data := .seq items2 n2, slots := bs } := hb
    have f1 := AutoSeq1.idx_int; have f2 := AutoSeq1.sub_tuple_tuple; have f3 := AutoSeq1.sub_list_list; have f4 := AutoSeq1.sub_tuple_list; have f5 := AutoSeq1.sub_list_tuple
    have hz' : (items ++ items2).size ≤ sizeLine + 1 := by rw [Array.size_append]; exact hs2
    wp_walk using (wpAny_updateSeq hl rfl (hz := hs1) (_hz' := hz')), AutoSeq1.wpAny_loadPart' hl, AutoSeq1.wpAny_loadPart' hb
    exact ⟨_, rfl, h⟩
def rExtendT (K : PySem.W.Frag) : V → List V → Hp → VK → Prop := fun x vs H Q => ∃ l b xs zs, x = .ref l ∧ vs = [.ref b] ∧ H l = some (.lst xs) ∧ SqT K H b zs ∧ xs.length + zs.length ≤ sizeLine ∧ Q .non (upd H l (.lst (xs ++ zs)))
theorem mt_extendT {X : Cx} (K : PySem.W.Frag) (hK : X.K = K := by rfl) : MtM X "list.extend" (rExtendT K) := by
  rintro pins s σ H _ _ v us Q I rx rv ⟨l, b, xs, zs, rfl, rfl, hH, hB, hz, q⟩
  subst hK
  cases rx
  obtain ⟨u, rfl, ru⟩ := rv.one
  cases ru
  obtain ⟨_, its, n, r, _, e⟩ := I.lstM hH
  obtain ⟨its2, r2, p2, _⟩ := I.tuple hB
  have len : its.length + its2.length ≤ sizeLine := by rw [← r.length, ← r2.length]; exact hz
  have short : ¬ (!its.toArray.isEmpty && Builtin.List.listTooLong (its.toArray.size + its2.toArray.size)) = true := by
    rw [notLongL (by simpa using len), Bool.and_false]
    decide
  refine call_meets F.slot_list_extend ⟨_, e, rfl⟩ F.entry_list_extend (F.args_list_extend_2 _ _) (extend_tup l its.toArray n b its2.toArray short (by simp; omega) (by simp; omega))
    ⟨e, p2, .non, _, I.lset (its' := its ++ its2) hH e (by simp) (r.append r2) (by rw [List.length_append]; exact hz), rfl, q⟩
end DL
end

section
set_option maxRecDepth 100000
set_option maxHeartbeats 4000000
/-! sorted(set(xs)) of a tuple or a list of ints. -/
namespace DL
open PySem PySem.Spec PyProof.Rows L2
variable {P : Program} {w : World} {A : Around} {E : Value → Shared → Prop} {s : Shared}

/-! ### set(list of ints) -/
abbrev setOb (w : World) : Obj := { cls := .type "set", dict := none, data := .set #[] 0 (.fresh 0 0 (!w.params.followText "set-order")) }
/-- the heap with a new empty set -/
abbrev withSet (w : World) (h : Heap) : Heap := h.push (setOb w)
/-- the new set takes a list's ints -/
theorem poured {l : Addr} {items : Array Value} {ns : List Int} {R : PySem.Fin → Shared → Prop} (hh : A.handled = none) (hl : s.heap.IsList l items) (hi : IntsAre items.toList ns) (hb : ns.length + 1 < scanBound)
    (k : ∀ (h' : Heap) (tk c : Nat), SetR w h' s.heap.objs.size (fun j => decide (j ∈ ns)) c → c ≤ ns.length → (∀ b o, s.heap.get? b = some o → h'.get? b = some o) → R (.done (.ret .none)) { s with heap := h', toks := tk }) :
    wpAny (model P w) A (Builtin.«set.__init__» ⟨[.ref s.heap.objs.size, .ref l], []⟩) R E { s with heap := withSet w s.heap } := by
  have len : items.size = ns.length := (Array.length_toList (xs := items)) ▸ hi.length
  have size : (withSet w s.heap).objs.size = s.heap.objs.size + 1 := Heap.size_push ..
  have self : (withSet w s.heap).get? s.heap.objs.size = some (setOb w) := Heap.get?_push_size _ rfl
  have src : (withSet w s.heap).IsList l items := hl.push _
  have inside : ∀ {b : Addr} {o : Obj}, s.heap.get? b = some o → b ≠ s.heap.objs.size ∧ b ≠ (withSet w s.heap).objs.size := fun e =>
    ⟨Nat.ne_of_lt (Heap.lt_size e), size ▸ Nat.ne_of_lt (Nat.lt_succ_of_lt (Heap.lt_size e))⟩
  obtain ⟨lo, hlo, _⟩ := id hl
  have ivs : ∀ (i : Nat) (v : Value), items[i]? = some v → ∃ n t, ns[i]? = some n ∧ v = .int n t := fun i v hv => by
    obtain ⟨t, e⟩ := hi.int_at i v (by rw [Array.getElem?_toList, hv])
    have lti : i < ns.length := len ▸ (Array.getElem?_eq_some_iff.mp hv).1
    exact ⟨ns[i], t, List.getElem?_eq_getElem lti, by rw [e, List.getD_eq_getElem?_getD, List.getElem?_eq_getElem lti] <;> rfl⟩
  have apart : s.heap.objs.size ∉ [(withSet w s.heap).objs.size, l] := by
    intro z
    rcases List.mem_cons.mp z with z | z
    · rw [size] at z
      exact absurd z (Nat.ne_of_lt (Nat.lt_succ_self _))
    · exact (inside hlo).1 (List.mem_singleton.mp z).symm
  have loop := fun {A' : Around} (hA : A'.in1.handled = none) (R' : Result → Shared → Prop) => set_update_ints (P := P) (w := w) (R := R') (Walks.list (prog := P) (w := w) hA _ l (inside hlo).2 items).toS s.heap.objs.size apart ns len hb ivs items.size 0
  obtain ⟨⟨_, dd, _, sl⟩, el, rfl, n0, rfl⟩ := id src
  have g1 := F.sub_list_set; have g2 := F.sub_list_frozenset
  have g3 : (Value.type "list" == Value.type "dict") = false := rfl
  unfold Builtin.«set.__init__» noKeywords Builtin.Frozenset.updateFrom
  generalize hp : pyIter = it
  wp_walk
  subst hp
  refine wpAny_pyIter_list src (wpAny_bind (wpAny_runValue (loop (by simp [hh]) _ _ rfl (Nat.zero_le _) ⟨⟨_, Heap.get?_push_size _ rfl, rfl, rfl⟩, src.push _⟩ ⟨0, Nat.le_refl 0, setR_new_at (Heap.get?_push_of_some _ self)⟩ ?_)))
  rintro ⟨h', _, _, tk, _⟩ c ⟨kh, rfl, rfl, rfl, _⟩ hc R1
  exact wpAny_pure (wpAny_pure (k h' tk c R1 (len ▸ hc) fun b o e => kh b o (by simpa using inside e) (Heap.get?_push_of_some _ (Heap.get?_push_of_some _ e))))
/-- set(v), told by what the new set takes -/
theorem set_called {v : Value} {Q : Value → Shared → Prop}
    (h : wpAny (model P w) A.in1.in1 (Builtin.«set.__init__» ⟨[.ref s.heap.objs.size, v], []⟩) (fun f s' => f = .done (.ret .none) ∧ Q (.ref s.heap.objs.size) s') (fun _ _ => False) { s with heap := withSet w s.heap }) :
    wpAny (model P w) A (call (.type "set") [v]) Q E s := by
  obtain ⟨_, _, order⟩ := F.called_set.mro
  have f1 := F.called_set.made; have f2 := F.called_set.sub; have f3 := F.called_set.notType; have f4 := F.called_set.canCreate
  have f5 := F.typeCall_set_1 v; have f6 := F.called_set.init.lookup; have f7 := F.called_set.init.bind (.ref s.heap.objs.size)
  refine wpAny_call (codeAny_of_tree (show wpAny _ _ (callAny (.type "set") _) _ _ _ from wpAny_pure ⟨Code.quiet_builtin _ (by decide +kernel), codeAny_builtin F.entry_type_call ?_⟩))
  rw [Around.under_plain (weight_type_call_type "set" [v] []) rfl]
  repeat (any_goals (first | assumption | wp_step))
  have born : codeAny (model P w) A.in1 (.call (.builtin "set.__new__") ⟨[.type "set", v], []⟩) (fun r s1 => r = .ok (.ret (.ref s.heap.objs.size)) ∧ s1 = { s with heap := withSet w s.heap }) s :=
    codeAny_mono (code_set_led1 v (E := fun _ _ => False) (Q₁ := fun u s1 => u = .ref s.heap.objs.size ∧ s1 = { s with heap := withSet w s.heap }) ⟨rfl, rfl⟩) fun r s1 hr => by
      rcases r with _ | _ | _ | _ | _ <;> first | exact hr.elim | exact ⟨by rw [hr.1], hr.2⟩
  have init : codeAny (model P w) A.in1 (.call (.builtin "set.__init__") ⟨[.ref s.heap.objs.size, v], []⟩) (fun r s1 => r = .ok (.ret .none) ∧ Q (.ref s.heap.objs.size) s1) { s with heap := withSet w s.heap } :=
    codeAny_call_builtin F.called_set.init.plain F.entry_set_init (check_set_init_1 ⟨_, Heap.get?_push_size _ rfl, rfl⟩ (wpAny_mono h (fun f s1 e => by rw [e.1]; exact ⟨rfl, e.2⟩) fun _ _ e => e.elim))
  refine codeAny_mono born ?_
  rintro _ _ ⟨rfl, rfl⟩
  repeat (any_goals (first | assumption | wp_step))
  refine codeAny_mono init ?_
  rintro _ s1 ⟨rfl, q⟩
  repeat (any_goals (first | assumption | wp_step))
theorem call_set_lstI {l : Addr} {items : Array Value} (ns : List Int) {Q : Value → Shared → Prop} (hh : A.handled = none) (hl : s.heap.IsList l items) (hit : IntsAre items.toList ns) (hb : ns.length + 1 < scanBound)
    (h : ∀ (h' : Heap) (tk c : Nat), SetR w h' s.heap.objs.size (fun j => decide (j ∈ ns)) c → c ≤ ns.length → (∀ b o, s.heap.get? b = some o → h'.get? b = some o) → Q (.ref s.heap.objs.size) { s with heap := h', toks := tk }) :
    wpAny (model P w) A (call (.type "set") [.ref l]) Q E s :=
  set_called (poured (by simp [hh]) hl hit hb fun h' tk c R1 hc k => ⟨rfl, h h' tk c R1 hc k⟩)

/-! ### strictly ascending lists -/
/-- set(xs) -/
def rSetI (K : PySem.W.Frag) (w : World) : List V → Hp → VK → Prop := fun xs H Q => ∃ (p : Addr) (ns : List Int), xs = [.ref p] ∧ (SqL K H p (ns.map V.int) ∨ SqT K H p (ns.map V.int)) ∧ ns.length < 64 ∧
  ∀ (a : Addr) (c : Nat), H a = none → c ≤ ns.length → Q (.ref a) (upd H a (SetO w a (fun j => decide (j ∈ ns)) c))
theorem cr_setI {X : Cx} (hc : X.calm = true) : CallR X (.type "set") (rSetI X.K X.w) := by
  intro pins s σ H xs us Q I r h
  obtain ⟨p, ns, rfl, hq, hl, q⟩ := h
  obtain ⟨u, rfl, rx⟩ := vals1 r
  cases rx
  have fin : ∀ (h' : Heap) (tk c : Nat), SetR X.w h' s.heap.objs.size (fun j => decide (j ∈ ns)) c → c ≤ ns.length → (∀ b o, s.heap.get? b = some o → h'.get? b = some o) → EP X pins σ Q (.ref s.heap.objs.size) { s with heap := h', toks := tk } := fun h' tk c R hc k =>
    ⟨.ref s.heap.objs.size, _, I.laid (t' := tk) k (Nat.le_refl _) (setO_new R), rfl, q _ c (I.hok.fresh (Nat.le_refl _)) hc⟩
  rcases hq with hq | hq
  · obtain ⟨its, rv, pl, hz⟩ := I.list hq
    exact call_set_lstI ns (I.ok.hd hc) pl.isList (ints_of_vals rv) (by unfold scanBound; omega) fin
  · obtain ⟨its, rv, pt, hz⟩ := I.tuple hq
    exact call_set_tupI ns (I.ok.hd hc) pt (ints_of_vals rv) (by unfold scanBound; omega) fin
theorem crSet {X : Cx} (K : PySem.W.Frag) (w : World) (hK : X.K = K := by rfl) (hw : X.w = w := by rfl) (hc : X.calm = true := by rfl) : CallR X (.type "set") (rSetI K w) := by subst hK hw; exact cr_setI hc
theorem crSortedSet {X : Cx} (w : World) (hw : X.w = w := by rfl) (hc : X.calm = true := by rfl) : CallR X (.builtin "sorted") (rSortedSet w) := by subst hw; exact cr_sortedSet hc

/-! ### sorted(set(..)) by data -/
section
open MN
theorem asc_ext : ∀ {l k : List Int}, l.Pairwise (· < ·) → k.Pairwise (· < ·) → (∀ x, x ∈ l ↔ x ∈ k) → l = k
  | [], [], _, _, _ => rfl
  | [], b :: k, _, _, h => absurd ((h b).mpr (by simp)) (by simp)
  | a :: l, [], _, _, h => absurd ((h a).mp (by simp)) (by simp)
  | a :: l, b :: k, hl, hk, h => by
    rw [List.pairwise_cons] at hl hk
    have e : a = b := by
      rcases List.mem_cons.mp ((h a).mp (by simp)) with e | m
      · exact e
      · rcases List.mem_cons.mp ((h b).mpr (by simp)) with e | m2
        · exact e.symm
        · have := hl.1 b m2; have := hk.1 a m; omega
    subst e
    rw [asc_ext hl.2 hk.2 fun x => ?_]
    have hx := h x
    rw [List.mem_cons, List.mem_cons] at hx
    constructor
    · intro m
      rcases hx.mp (.inr m) with e | m'
      · have := hl.1 x m; omega
      · exact m'
    · intro m
      rcases hx.mpr (.inr m) with e | m'
      · have := hk.1 x m; omega
      · exact m'
end
end DL
namespace K17
open MN
theorem mem_uniq {x : Nat} : ∀ {l : List Nat}, x ∈ uniq l ↔ x ∈ l
  | [] => by simp [uniq]
  | a :: l => by
    unfold uniq
    split
    · rename_i h
      rw [mem_uniq, List.mem_cons]
      constructor
      · exact .inr
      · rintro (e | m)
        · subst e; exact mem_uniq.mp h
        · exact m
    · rw [List.mem_cons, List.mem_cons, mem_uniq]
theorem uniq_nodup : ∀ l : List Nat, (uniq l).Nodup
  | [] => List.nodup_nil
  | a :: l => by
    unfold uniq
    split
    · exact uniq_nodup l
    · rename_i h; exact List.nodup_cons.mpr ⟨h, uniq_nodup l⟩
theorem mem_setOf {x : Nat} {l : List Nat} : x ∈ setOf l ↔ x ∈ l := by
  unfold setOf
  rw [(srt_perm _).mem_iff, mem_uniq]
theorem asc_of {l : List Nat} (h : l.Pairwise (· ≤ ·)) (n : l.Nodup) : l.Pairwise (· < ·) := by
  induction l with
  | nil => exact .nil
  | cons a l ih =>
    rw [List.pairwise_cons] at h ⊢
    rw [List.nodup_cons] at n
    refine ⟨fun b hb => ?_, ih h.2 n.2⟩
    have := h.1 b hb
    have : a ≠ b := fun e => n.1 (e ▸ hb)
    omega
theorem setOf_asc (l : List Nat) : (setOf l).Pairwise (· < ·) := asc_of (srt_sorted _) ((srt_perm _).nodup_iff.mpr (uniq_nodup l))
end K17
namespace DL
open PySem PySem.Spec PyProof.Rows L2 MN K17
theorem setOf_ints {l : List Nat} {ns : List Int} (h : ns.Pairwise (· < ·)) (m : ∀ k : Int, k ∈ ns ↔ decide (k ∈ l.map fun (n : Nat) => (n : Int)) = true) : ns = (setOf l).map fun (n : Nat) => (n : Int) := by
  refine asc_ext h ?_ fun x => ?_
  · rw [List.pairwise_map]
    exact (setOf_asc l).imp fun h => by omega
  · rw [m x, decide_eq_true_eq, List.mem_map, List.mem_map]
    constructor
    · rintro ⟨a, ha, e⟩; exact ⟨a, mem_setOf.mpr ha, e⟩
    · rintro ⟨a, ha, e⟩; exact ⟨a, mem_setOf.mp ha, e⟩
theorem Reps.nats {G : Hp} : ∀ {l : List Nat} {vs : List V}, Reps G vs (l.map nD) → vs = (l.map fun (n : Nat) => (n : Int)).map V.int
  | [], _, h => by cases h; rfl
  | a :: l, _, h => by
    rw [List.map_cons] at h
    cases h with
    | cons h1 h2 => cases h1; rw [Reps.nats h2] <;> rfl
theorem reps_nats {G : Hp} : ∀ {l : List Nat}, Reps G ((l.map fun (n : Nat) => (n : Int)).map V.int) (l.map nD)
  | [] => .nil
  | a :: l => .cons (.int _) reps_nats
theorem ev_sset {K : PySem.W.Frag} {w : World} {ρ ρ1 : En} {te : TE} {l : List Nat} {d : D} (h : EvD te ρ ρ1 (.va d)) (hd : d = nT l ∨ d = nL l) (hl : l.length < 64) :
    EvD (tCB (rSortedSet w) (tCons (tCB (rSetI K w) (tCons te tNil)) tNil)) ρ ρ1 (.ow (nL (setOf l))) := fun t G0 H0 κ τ G H σ hl' m Q q => by
  refine h t G0 H0 κ τ G H σ hl' m _ fun v G1 H1 m1 => ?_
  have wv := m1.last.rep
  have m2 := m1.pop
  have hq : ∃ p, v = .ref p ∧ (SqL K H1 p ((l.map fun (n : Nat) => (n : Int)).map V.int) ∨ SqT K H1 p ((l.map fun (n : Nat) => (n : Int)).map V.int)) := by
    rcases hd with rfl | rfl
    · cases wv with
      | tup h1 h2 => rw [h2.nats] at h1; exact ⟨_, rfl, .inr (SqT.of (m1.gr.gh _ _ h1))⟩
    · cases wv with
      | lst h1 h2 => rw [h2.nats] at h1; exact ⟨_, rfl, .inl (SqL.of (m1.gr.gh _ _ h1))⟩
  obtain ⟨p, rfl, hq⟩ := hq
  refine (show rSetI K w [.ref p] H1 (fun x H2 => rSortedSet w [x] H2 Q) from ?_)
  refine ⟨p, _, rfl, hq, by simpa using hl, fun a c ha hc => ?_⟩
  refine ⟨a, _, c, rfl, upd_same, by simp at hc; omega, fun ns b h1 h2 h3 h4 => ?_⟩
  rw [setOf_ints h1 h2]
  have m3 := m2.new (o := SetO w a (fun j => decide (j ∈ l.map fun (n : Nat) => (n : Int))) c) ha
  exact q _ _ _ (m3.pushOw h4 ⟨_, upd_same, reps_nats⟩)
end DL
end

section
set_option maxRecDepth 100000
set_option maxHeartbeats 4000000
/-! More rules by data: sorted tuples, seen-dicts, enumerate, zip, tuple targets, ranges. -/
namespace DL
open PySem PySem.Spec PyProof.Rows L2 MN K17

/-! ### sorted(list of tuples of ints) -/
abbrev encN (l : List Nat) : PyData := .tuple (l.map fun (n : Nat) => PyData.int (n : Int))
abbrev encB (b : V × List Nat) : PyData := encN b.2
def rSortT (K : PySem.W.Frag) : List V → Hp → VK → Prop := fun xs H Q => ∃ (p : Addr) (bs : List (V × List Nat)), xs = [.ref p] ∧ SqL K H p (bs.map (·.1)) ∧ (∀ b ∈ bs, b.2 ≠ []) ∧ (∀ b ∈ bs, Dp K H b.1 (encB b)) ∧
  ∀ q, H q = none → Q (.ref q) (upd H q (.lst ((bs.mergeSort (PySem.W.dataLe false encB)).map (·.1))))
theorem alikeT : ∀ l k : List Nat, PySem.W.alike (encN l) (encN k) = true
  | l, k => by
    have z := PySem.W.alike_ints (l.map fun (n : Nat) => (n : Int)) (k.map fun (n : Nat) => (n : Int))
    rw [List.map_map, List.map_map] at z
    unfold encN
    simp only [PySem.W.alike]
    exact z
theorem depthT (l : List Nat) : (encN l).depth ≤ 1 := by
  have z := PySem.W.depth_ints (l.map fun (n : Nat) => (n : Int))
  rw [List.map_map] at z
  unfold encN
  rw [PyData.depth]
  have e : (List.map (PyData.int ∘ fun (n : Nat) => (n : Int)) l) = l.map fun (n : Nat) => PyData.int (n : Int) := rfl
  rw [e] at z
  omega
theorem eachV {bs : List (V × List Nat)} : ∀ {us : List Value}, Vals (bs.map (·.1)) us → PySem.W.EachIs (fun v (b : V × List Nat) => RelV b.1 v ∧ b ∈ bs) us bs := by
  have key : ∀ (cs : List (V × List Nat)), (∀ b ∈ cs, b ∈ bs) → ∀ {us : List Value}, Vals (cs.map (·.1)) us → PySem.W.EachIs (fun v (b : V × List Nat) => RelV b.1 v ∧ b ∈ bs) us cs := by
    intro cs
    induction cs with
    | nil => intro _ us r; cases r; exact .nil
    | cons c cs ih =>
      intro h us r
      rw [List.map_cons] at r
      cases r with
      | cons r1 r2 => exact .cons ⟨r1, h c (by simp)⟩ (ih (fun b hb => h b (List.mem_cons_of_mem _ hb)) r2)
  exact fun {us} r => key bs (fun _ h => h) r
theorem valsE {bs : List (V × List Nat)} : ∀ {cs : List (V × List Nat)} {us : List Value}, PySem.W.EachIs (fun v (b : V × List Nat) => RelV b.1 v ∧ b ∈ bs) us cs → Vals (cs.map (·.1)) us
  | _, _, .nil => .nil
  | _, _, .cons h t => .cons h.1 (valsE t)
theorem each_imp {R S : Value → (V × List Nat) → Prop} (h : ∀ v b, R v b → S v b) : ∀ {us : List Value} {cs : List (V × List Nat)}, PySem.W.EachIs R us cs → PySem.W.EachIs S us cs
  | _, _, .nil => .nil
  | _, _, .cons a t => .cons (h _ _ a) (each_imp h t)
theorem cr_sortT {X : Cx} {k : Nat} (hr : Room k X.A) : CallR X (.builtin "sorted") (rSortT X.K) := by
  intro pins s σ H vs us Q I r h
  obtain ⟨a, bs, rfl, hs, hne, hdp, q⟩ := h
  obtain ⟨its, rv, hl, hz⟩ := I.list hs
  rw [Vals.ref1 r]
  have hn : bs.length ≤ sizeLine := by rw [List.length_map] at hz; exact hz
  refine PySem.W.sorted_data (R := fun v (b : V × List Nat) => RelV b.1 v ∧ b ∈ bs) (enc := encB) hl.isList (eachV rv) (each_imp (fun v b h => Dp.reads I _ _ _ (hdp b h.2) h.1) (eachV rv))
    (PySem.W.AllAlike.of fun b b' => alikeT _ _) (.inl fun d hd => ?_) hn (fun b _ => ?_) fun out ho eo => ?_
  · obtain ⟨b, hb, rfl⟩ := List.mem_map.mp hd
    obtain ⟨v, l⟩ := b
    cases l with
    | nil => exact absurd rfl (hne _ hb)
    | cons x r => exact ⟨_, _, rfl⟩
  · have := hr.units
    have := depthT b.2
    show X.A.units + 2 + (encN b.2).depth < cLine
    omega
  · obtain ⟨ep, he'⟩ := PyProof.Rows.sortedAll_at s.heap its out.toArray
    have hlen : ((bs.mergeSort (PySem.W.dataLe false encB)).map (·.1)).length ≤ sizeLine := by
      rw [List.length_map, List.length_mergeSort]; exact hn
    exact ⟨.ref _, upd H (s.heap.objs.size + 1) (.lst ((bs.mergeSort (PySem.W.dataLe false encB)).map (·.1))), I.laid (t' := s.toks) (fun _ _ => PyProof.Rows.sortedAll_old) (Nat.le_succ _) ⟨hlen, out, ep, valsE eo, he'⟩, rfl, q _ (I.hok.fresh (Nat.le_succ _))⟩
theorem crSortT {X : Cx} (K : PySem.W.Frag) {k : Nat} (hr : Room k X.A) (hK : X.K = K := by rfl) : CallR X (.builtin "sorted") (rSortT K) := by subst hK; exact cr_sortT hr
/-- the lists in the order of sorted -/
def sortL (ls : List (List Nat)) : List (List Nat) := ls.mergeSort (PySem.W.dataLe false encN)
theorem sortL_perm (ls : List (List Nat)) : (sortL ls).Perm ls := List.mergeSort_perm _ _
theorem sort_map (bs : List (V × List Nat)) : (bs.mergeSort (PySem.W.dataLe false encB)).map (·.2) = sortL (bs.map (·.2)) :=
  List.map_mergeSort fun a _ b _ => rfl
theorem Reps.zipL {G : Hp} : ∀ {vs : List V} {ls : List (List Nat)}, Reps G vs (ls.map nT) → ∃ bs : List (V × List Nat), bs.map (·.1) = vs ∧ bs.map (·.2) = ls ∧ ∀ b ∈ bs, Rep G b.1 (nT b.2)
  | _, [], h => by cases h; exact ⟨[], rfl, rfl, fun _ h => nomatch h⟩
  | _, l :: ls, h => by
    rw [List.map_cons] at h
    cases h with
    | @cons v _ _ _ h1 h2 =>
      obtain ⟨bs, e1, e2, e3⟩ := Reps.zipL h2
      refine ⟨(v, l) :: bs, by rw [List.map_cons, e1], by rw [List.map_cons, e2], fun b hb => ?_⟩
      rcases List.mem_cons.mp hb with rfl | hb
      · exact h1
      · exact e3 b hb
theorem reps_of {G : Hp} : ∀ {bs : List (V × List Nat)}, (∀ b ∈ bs, Rep G b.1 (nT b.2)) → Reps G (bs.map (·.1)) ((bs.map (·.2)).map nT)
  | [], _ => .nil
  | b :: bs, h => .cons (h b (by simp)) (reps_of fun c hc => h c (List.mem_cons_of_mem _ hc))
theorem toPy_nT (l : List Nat) : toPy (nT l) = encN l := by
  have e : ∀ l : List Nat, toPys (l.map nD) = l.map fun (n : Nat) => PyData.int (n : Int) := by
    intro l
    induction l with
    | nil => simp [toPys]
    | cons a l ih => rw [List.map_cons, List.map_cons, toPys, ih]; simp [toPy]
  show toPy (.tup (l.map nD)) = _
  rw [toPy, e]
theorem co_sortT {K : PySem.W.Frag} {ls : List (List Nat)} (h : ∀ l ∈ ls, l ≠ []) : CallO (rSortT K) [.lst (ls.map nT)] (.lst ((sortL ls).map nT)) := fun G H us s rs Q q => by
  cases rs with
  | cons r1 r2 =>
    cases r2
    cases r1 with
    | lst h1 h2 =>
      obtain ⟨bs, e1, e2, e3⟩ := h2.zipL
      subst e1 e2
      refine ⟨_, bs, rfl, SqL.of (s _ _ h1), fun b hb => h _ (List.mem_map.mpr ⟨b, hb, rfl⟩), fun b hb => ?_, fun p hp => q p _ hp ⟨_, upd_same, ?_⟩⟩
      · have z := Rep.dp (K := K) s _ _ (e3 b hb) (by simp [noOb, noObs_nats])
        rw [toPy_nT] at z; exact z
      · rw [← sort_map]
        exact reps_of fun b hb => e3 b ((List.mergeSort_perm _ _).mem_iff.mp hb)

/-! ### dicts that only tell what was seen -/
abbrev seenD (l : List Nat) : D := .dic (l.map fun (n : Nat) => (n : Int)) (l.map fun _ => .bl true)
def seenK (l : List Nat) : List (Key × V) := l.map fun (n : Nat) => (Sum.inl (n : Int), V.bl true)
theorem Reps.trues {G : Hp} : ∀ {l : List Nat} {xs : List V}, Reps G xs (l.map fun _ => D.bl true) → xs = l.map fun _ => V.bl true
  | [], _, h => by cases h; rfl
  | _ :: l, _, h => by
    rw [List.map_cons] at h
    cases h with
    | cons h1 h2 => cases h1; rw [Reps.trues h2] <;> rfl
theorem reps_trues {G : Hp} : ∀ {l : List Nat}, Reps G (l.map fun _ => V.bl true) (l.map fun _ => D.bl true)
  | [] => .nil
  | _ :: l => .cons (.bl _) reps_trues
theorem kvs_seen : ∀ l : List Nat, kvsOf (l.map fun (n : Nat) => (n : Int)) (l.map fun _ => V.bl true) = seenK l
  | [] => rfl
  | a :: l => by
    have ih := kvs_seen l
    unfold kvsOf seenK at ih ⊢
    simp only [List.map_cons, List.zip_cons_cons]
    rw [ih]
theorem cont_seen {G H : Hp} {a : Addr} {l : List Nat} : Cont G H a (seenD l) ↔ H a = some (.dK (seenK l)) := by
  constructor
  · rintro ⟨xs, h1, _, h2⟩
    rw [h2.trues, kvs_seen] at h1; exact h1
  · intro h
    exact ⟨l.map fun _ => V.bl true, by rw [kvs_seen]; exact h, by simp, reps_trues⟩
theorem put_seen (l : List Nat) (a : Nat) : putK (seenK l) (Sum.inl (a : Int)) (.bl true) = seenK (put l a) := by
  have ha : ∀ l : List Nat, ((seenK l).any fun kv => decide (kv.1 = Sum.inl (a : Int))) = decide (a ∈ l) := by
    intro l
    induction l with
    | nil => rfl
    | cons b l ih =>
      unfold seenK at ih ⊢
      rw [List.map_cons, List.any_cons, ih]
      by_cases e : a = b
      · subst e; simp
      · have : ¬ (b : Int) = (a : Int) := fun z => e (by omega)
        simp [e, this]
  unfold putK put
  rw [ha]
  by_cases h : a ∈ l
  · rw [if_pos (by simpa using h), if_pos h]
    unfold seenK
    rw [List.map_map]
    refine List.map_congr_left fun b _ => ?_
    show (if (Sum.inl (b : Int) : Key) = Sum.inl (a : Int) then _ else _) = _
    split <;> rfl
  · rw [if_neg (by simpa using h), if_neg h]
    unfold seenK
    rw [List.map_append] <;> rfl
theorem put_length (l : List Nat) (a : Nat) : (put l a).length ≤ l.length + 1 := by
  unfold put; split <;> simp
theorem merge_seen : ∀ (m l : List Nat), mergeK (seenK l) (seenK m) = seenK (m.foldl put l)
  | [], l => rfl
  | a :: m, l => by
    show mergeK (putK (seenK l) (Sum.inl (a : Int)) (.bl true)) (seenK m) = _
    rw [put_seen, merge_seen m, List.foldl_cons]
theorem seenK_length (l : List Nat) : (seenK l).length = l.length := by unfold seenK; simp
/-- {a: True} -/
theorem ev_disp1 {ρ ρ1 ρ2 : En} {tk tv : TE} {a : Nat} (hk : EvD tk ρ ρ1 (.va (nD a))) (hv : EvD tv ρ1 ρ2 (.va (.bl true))) : EvD (tDisp [(tk, tv)]) ρ ρ2 (.ow (seenD [a])) := fun t G0 H0 κ τ G H σ hl m Q q => by
  intro p hp
  have m1 := m.pushOw (d := .dic [] []) hp ⟨[], upd_same, rfl, .nil⟩
  rw [List.append_assoc, List.append_assoc] at m1
  refine hk t G0 H0 _ _ _ _ σ hl m1 _ fun v G1 H1 m2 => ?_
  have w1 := m2.last.rep
  cases w1
  have m2 := m2.pop
  refine hv t G0 H0 _ _ _ _ σ (m2.len4 (m1.len2 (ρ' := ρ) hl)) m2 _ fun u G2 H2 m3 => ?_
  have w2 := m3.last.rep
  cases w2
  have m3 := m3.pop
  rw [← List.append_assoc, ← List.append_assoc] at m3
  obtain ⟨a', e, g1, g2, c⟩ := m3.last
  cases e
  refine ⟨?_, [(Sum.inl (a : Int), .bl true)], rfl, by simp, ?_⟩
  · obtain ⟨xs, h1, h2, h3⟩ := c
    cases h3; exact h1
  · have hk : (ρ2 ++ κ ++ [Sl.ow (.dic [] [])])[(ρ2 ++ κ).length]? = some (.ow (.dic [] [])) := by simp
    have hlen : (σ ++ τ).length = (ρ2 ++ κ).length := by have := m3.pop.len; exact this
    have hv' : (σ ++ τ ++ [some (V.ref p)])[(ρ2 ++ κ).length]? = some (some (.ref p)) := by rw [← hlen]; simp
    have m4 := m3.writeOw (o := .dK (seenK [a])) (d' := seenD [a]) hk hv' (cont_seen.mpr upd_same)
    rw [List.set_append_right _ _ (Nat.le_refl _), Nat.sub_self] at m4
    exact q _ _ _ m4
/-- seen[k] = True -/
theorem run_seen {C : Addr} {E : XK} {ρ : En} {po : Po} {i : Nat} {l : List Nat} {a : Nat} {ti tv : TE} (hv : EvD tv ρ ρ (.va (.bl true))) (hi : ρ[i]? = some (.ow (seenD l))) (hk : EvD ti ρ ρ (.va (nD a))) (hz : l.length < 100000) (hn : po.nx (ρ.set i (.ow (seenD (put l a))))) :
    Run C E (sDPut (tVar i) ti tv) ρ po := fun t G0 H0 G H σ m Ds s => by
  refine hv.go m fun v G1 H1 m1 => ?_
  have w := m1.last.rep
  cases w
  have m1 := m1.pop
  obtain ⟨a1, e1, _, _, _⟩ := m1.ow hi
  refine ⟨_, e1, ?_⟩
  refine hk.go m1 fun u G2 H2 m2 => ?_
  have w2 := m2.last.rep
  cases w2
  have m2 := m2.pop
  obtain ⟨a2, e2, _, _, c⟩ := m2.ow hi
  rw [e1] at e2; cases e2
  have c' := cont_seen.mp c
  refine ⟨_, _, rfl, DPut.k (k := Sum.inl (a : Int)) c' (by rw [seenK_length]; exact small_lt hz), ?_⟩
  rw [put_seen]
  exact s.nx _ _ _ _ hn (m2.writeOw (o := .dK (seenK (put l a))) (d' := seenD (put l a)) hi e1 (cont_seen.mpr upd_same))
/-- dict of pairs (k, True) -/
abbrev rDictP (K : PySem.W.Frag) : List V → Hp → VK → Prop := fun xs H Q => ∃ (a : Addr) (ps : List Addr) (kvs : List (Key × V)), xs = [.ref a] ∧ SqL K H a (ps.map V.ref) ∧ Paired (fun p kv => SqT K H p [kV kv.1, kv.2]) ps kvs ∧ ∀ p, H p = none → Q (.ref p) (upd H p (.dK (mergeK [] kvs)))
theorem crDictP {X : Cx} (K : PySem.W.Frag) (hK : X.K = K := by rfl) (hc : X.calm = true := by rfl) : CallR X (.type "dict") (rDictP K) := by subst hK; exact call_dictP hc
theorem Reps.pairsT {K : PySem.W.Frag} {G H : Hp} (s : Same G H) : ∀ {l : List Nat} {vs : List V}, Reps G vs (l.map fun n => D.tup [nD n, .bl true]) → ∃ ps : List Addr, vs = ps.map V.ref ∧ Paired (fun p (kv : Key × V) => SqT K H p [kV kv.1, kv.2]) ps (seenK l)
  | [], _, h => by cases h; exact ⟨[], rfl, .nil⟩
  | a :: l, _, h => by
    rw [List.map_cons] at h
    cases h with
    | cons h1 h2 =>
      obtain ⟨ps, e, p⟩ := Reps.pairsT s h2
      cases h1 with
      | @tup b xs _ q1 q2 =>
        cases q2 with
        | cons q2 q3 =>
          cases q3 with
          | cons q3 q4 =>
            cases q4; cases q2; cases q3
            exact ⟨b :: ps, by rw [List.map_cons, e], .cons (SqT.of (s _ _ q1)) p⟩
theorem co_dictP {K : PySem.W.Frag} {l : List Nat} : CallO (rDictP K) [.lst (l.map fun n => D.tup [nD n, .bl true])] (seenD (l.foldl put [])) := fun G H us s rs Q q => by
  cases rs with
  | cons r1 r2 =>
    cases r2
    cases r1 with
    | lst h1 h2 =>
      obtain ⟨ps, e, p⟩ := Reps.pairsT (K := K) s h2
      refine ⟨_, ps, _, rfl, SqL.of (s _ _ (e ▸ h1)), p, fun b hb => q b _ hb (cont_seen.mpr ?_)⟩
      have z := merge_seen l []
      have e : seenK [] = [] := rfl
      rw [e] at z
      rw [z]; exact upd_same
theorem opv_seen_ni {l : List Nat} {a : Nat} : OpV rDNotIn (nD a) (seenD l) (.bl (!decide (a ∈ l))) := by
  have e : (l.map fun (n : Nat) => (n : Int)).contains (a : Int) = decide (a ∈ l) := by
    rw [Bool.eq_iff_iff, List.contains_iff_mem, decide_eq_true_eq, List.mem_map]
    exact ⟨fun ⟨b, hb, e⟩ => by have : b = a := by omega
                                exact this ▸ hb, fun h => ⟨a, h, rfl⟩⟩
  have z := opv_dnotin (i := (a : Int)) (ks := l.map fun (n : Nat) => (n : Int)) (ds := l.map fun _ => D.bl true)
  rw [e] at z; exact z
theorem opv_seen_in {l : List Nat} {a : Nat} : OpV rDIn (nD a) (seenD l) (.bl (decide (a ∈ l))) := by
  have e : (l.map fun (n : Nat) => (n : Int)).contains (a : Int) = decide (a ∈ l) := by
    rw [Bool.eq_iff_iff, List.contains_iff_mem, decide_eq_true_eq, List.mem_map]
    exact ⟨fun ⟨b, hb, e⟩ => by have : b = a := by omega
                                exact this ▸ hb, fun h => ⟨a, h, rfl⟩⟩
  have z := opv_din (i := (a : Int)) (ks := l.map fun (n : Nat) => (n : Int)) (ds := l.map fun _ => D.bl true)
  rw [e] at z; exact z
theorem tDNotIn_op (ty td : TE) : tDNotIn ty td = tOp rDNotIn ty td := rfl
theorem tDIn_op (ty td : TE) : tDIn ty td = tOp rDIn ty td := rfl
theorem tDGet_op (td ty : TE) : tDGet td ty = tOp rDGet td ty := rfl
end DL
end

section
set_option maxRecDepth 100000
set_option maxHeartbeats 4000000
/-! t[:0:-1] of a tuple. -/
namespace DL
open PySem PySem.Spec PyProof.Rows L2
section
variable {prog : Program} {w : World} {A : Around} {E : Value → Shared → Prop} {s : Shared}
theorem adjust_back (n : Nat) : Builtin.Slice.sliceAdjust none (some 0) (-1) (n : Int) = ((n : Int) - 1, (if n = 0 then -1 else 0)) := by
  unfold Builtin.Slice.sliceAdjust
  by_cases h : n = 0
  · subst h; rfl
  · simp [h]
    try omega
theorem places_back (n : Nat) : Builtin.Slice.slicePlaces ((n : Int) - 1) (if n = 0 then -1 else 0) (-1) = n - 1 := by
  unfold Builtin.Slice.slicePlaces
  by_cases h : n = 0
  · subst h; rfl
  · rw [if_neg h, if_neg (by decide)]
    by_cases h1 : n = 1
    · subst h1; rfl
    · rw [if_pos (by omega)]
      simp only [Int.neg_neg, Int.ediv_one]
      omega
theorem applied_back {sl : Addr} {vl vu vs : Value} {n : Nat} {Q : Int × Int × Nat → Shared → Prop} (hs : s.heap.IsSliceOf sl vl vu vs) (pl : IsPart vl none) (pu : IsPart vu (some 0)) (ps : IsPart vs (some (-1)))
    (h : Q ((n : Int) - 1, -1, n - 1) s) : wpAny (model prog w) A (Builtin.Slice.sliceApplied (.ref sl) (pure (n : Int))) Q E s := by
  obtain ⟨os, hos, hcs, hds⟩ := id hs
  unfold Builtin.Slice.sliceApplied Builtin.Slice.sliceFields
  refine wpAny_bind (wpAny_bind (wpAny_field hos hds (x := vl) rfl (wpAny_bind (wpAny_field hos hds (x := vu) rfl (wpAny_bind (wpAny_field hos hds (x := vs) rfl (wpAny_pure ?_)))))))
  refine wpAny_bind (HT.slicePart_ ps ?_)
  show wpAny _ _ (if ((-1 : Int) == 0) = true then _ else _) _ _ s
  rw [if_neg (by decide)]
  refine wpAny_bind (HT.slicePart_ pl (wpAny_bind (HT.slicePart_ pu (wpAny_bind (wpAny_pure ?_)))))
  show wpAny _ _ (match Builtin.Slice.sliceAdjust none (some 0) (-1) (n : Int) with | (lo, hi) => pure (lo, (-1 : Int), Builtin.Slice.slicePlaces lo hi (-1))) _ _ s
  rw [adjust_back n]
  show wpAny _ _ (pure (((n : Int) - 1), (-1 : Int), Builtin.Slice.slicePlaces ((n : Int) - 1) (if n = 0 then -1 else 0) (-1))) _ _ s
  rw [places_back]
  exact wpAny_pure h
theorem fm_some {α β : Type} {f : α → Option β} {g : α → β} : ∀ {l : List α}, (∀ x ∈ l, f x = some (g x)) → l.filterMap f = l.map g
  | [], _ => rfl
  | a :: l, h => by
    rw [List.filterMap_cons, h a (by simp), fm_some fun x hx => h x (List.mem_cons_of_mem _ hx)] <;> rfl
theorem pick_back (xs : Array Value) : ((List.range (xs.size - 1)).filterMap fun (m : Nat) => xs[((xs.size : Int) - 1 + (m : Int) * (-1)).toNat]?).toArray = (xs.toList.drop 1).reverse.toArray := by
  congr 1
  have e : ∀ m ∈ List.range (xs.size - 1), xs[((xs.size : Int) - 1 + (m : Int) * (-1)).toNat]? = some ((xs.toList.drop 1).reverse.getD m .none) := by
    intro m hm
    rw [List.mem_range] at hm
    have e1 : ((xs.size : Int) - 1 + (m : Int) * (-1)).toNat = xs.size - 1 - m := by omega
    have hl : m < (xs.toList.drop 1).reverse.length := by simp; omega
    rw [e1, List.getD_eq_getElem?_getD, List.getElem?_eq_getElem hl, Array.getElem?_eq_getElem (by omega)]
    simp only [Option.getD_some, List.getElem_reverse, List.getElem_drop, Array.getElem_toList, List.length_drop, Array.length_toList]
    congr 2
    omega
  rw [fm_some e]
  apply List.ext_getElem
  · simp
  · intro i h1 h2
    rw [List.getElem_map, List.getElem_range, List.getD_eq_getElem?_getD, List.getElem?_eq_getElem h2]
    rfl
/-- a tuple at a slice that takes n places from lo on in steps of st, not the whole of it -/
theorem tuple_at {t sl : Addr} {items : Array Value} {lo st : Int} {n : Nat} {out : List Value} {Q : Value → Shared → Prop} (ht : IsTup s.heap t items) (hT : s.TypeIs (.ref sl) "slice")
    (places : ∀ {A' : Around} {E' : Value → Shared → Prop} {Q' : Int × Int × Nat → Shared → Prop}, Q' (lo, st, n) s → wpAny (model prog w) A' (Builtin.Slice.sliceApplied (.ref sl) (pure (items.size : Int))) Q' E' s)
    (part : (lo == 0 && st == 1 && n == items.size) = false) (pick : ((List.range n).filterMap fun (m : Nat) => items[(lo + (m : Int) * st).toNat]?).toArray = out.toArray) (fits : out.length ≤ sizeLine)
    (h : Q (.ref s.heap.objs.size) { s with heap := s.heap.push { cls := .type "tuple", data := .seq out.toArray } }) : wpAny (model prog w) A (getItem (.ref t) (.ref sl)) Q E s := by
  unfold getItem
  try with_reducible refine wpAny_holding ?_
  first | refine wpAny_bind (wpAny_pure ?_) | skip
  refine wpAny_bind (wpAny_sequenceKey ht.typeIs (by decide) (wpAny_bind (wpAny_callSpecial?_slot (name := Str.ofString "__getitem__") ht.typeIs PyProof.Rows.slot_tuple_getitem (wpAny_call_entry PyProof.Rows.slot_tuple_getitem ht.typeIs entry_tuple_getitem
    (show wpAny _ _ (Builtin.Tuple.tupleItemsOf (.ref t) >>= _) _ _ s from wpAny_bind (tupleItemsOf_ ht (wpAny_bind (wpAny_typeOf hT ?_)))) (args_tuple_getitem _ _)))))
  rw [if_pos (show (Value.type "slice" == Value.type "slice") = true by decide)]
  refine wpAny_bind (places ?_)
  show wpAny _ _ (if (lo == 0 && st == 1 && n == items.size) = true then _ else _) _ _ s
  rw [part, if_neg Bool.false_ne_true, pick]
  exact wpAny_bind (m := Builtin.Tuple.tupleExact _) (wpAny_newObj_type (wpAny_pure ⟨_, rfl, wpAny_pure h⟩) fits)
theorem getItem_back {t sl : Addr} {items : Array Value} {vl vu vs : Value} {Q : Value → Shared → Prop} (ht : IsTup s.heap t items) (hs : s.heap.IsSliceOf sl vl vu vs) (pl : IsPart vl none) (pu : IsPart vu (some 0)) (ps : IsPart vs (some (-1)))
    (h : Q (.ref s.heap.objs.size) { s with heap := s.heap.push { cls := .type "tuple", data := .seq (items.toList.drop 1).reverse.toArray } })
    (hsz : items.size ≤ sizeLine) : wpAny (model prog w) A (getItem (.ref t) (.ref sl)) Q E s :=
  tuple_at ht (let ⟨o, ho, hc, _⟩ := hs; ⟨o, ho, hc⟩) (applied_back hs pl pu ps) (by rw [show ((-1 : Int) == 1) = false from rfl, Bool.and_false, Bool.false_and]) (pick_back items)
    (by rw [List.length_reverse, List.length_drop, Array.length_toList]; omega) h
end
def tBack (K : PySem.W.Frag) (te : TE) : TE := fun σ H Q => te σ H fun x H1 => ∃ a xs, x = .ref a ∧ SqT K H1 a xs ∧ ∀ p, H1 p = none → Q (.ref p) (upd H1 p (.tup (xs.drop 1).reverse))
theorem pe_back {X : Cx} {e : Expr} {te : TE} {k k2 : Nat} {p1 p2 p3 p4 pos : Pos} (K : PySem.W.Frag) (he : PE X e te) (hK : X.K = K := by rfl) : PE X (.Subscript e (.Slice none (some (.Constant (.int 0) k2 p4)) (some (.UnaryOp .USub (.Constant (.int 1) k p1) p2)) p3) pos) (tBack K te) := by
  constructor
  intro pins s σ H Q I h
  subst hK
  refine Subscript_ (thn (he.run pins s σ H _ I h) ?_)
  rintro v s1 ⟨_, H1, I1, rv, a, xs, rfl, hx, q⟩
  cases rv
  have down : PO X (some (.UnaryOp .USub (.Constant (.int 1) k p1) p2)) _ := po_some (pe_un un_neg pe_int)
  have zero : PO X (some (.Constant (.int 0) k2 p4)) _ := po_some pe_int
  refine wpAny_Slice (thn (po_none.run pins s1 σ H1 (fun o G => o = none ∧ H1 = G) I1 ⟨rfl, rfl⟩) ?_)
  rintro vl s2 ⟨_, _, I2, pl, rfl, rfl⟩
  refine thn (zero.run pins s2 σ _ (fun o G => o = some 0 ∧ H1 = G) I2 ⟨0, rfl, rfl, rfl⟩) ?_
  rintro vu s3 ⟨_, _, I3, pu, rfl, rfl⟩
  refine thn (down.run pins s3 σ _ (fun o G => o = some (-1) ∧ H1 = G) I3 ⟨1, rfl, -1, rfl, rfl, rfl⟩) ?_
  rintro vs s4 ⟨_, _, I4, ps, rfl, rfl⟩
  have I5 : Inv X pins σ H1 { s4 with heap := s4.heap.push { cls := .type "slice", data := .fields #[vl, vu, vs] } } := I4.kept (t' := s4.toks) fun _ _ => Heap.get?_push_of_some _
  obtain ⟨us, ru, it, sz⟩ := I5.tuple hx
  have z : us.length ≤ sizeLine := ru.length ▸ sz
  show wpAny _ _ (subscriptTail _ _ (.ref a) (.ref s4.heap.objs.size)) _ _ _
  refine tail_any (ops := [.ref a, .ref s4.heap.objs.size]) it.typeIs PyProof.Rows.slot_tuple_getitem.lookup (getItem_back it (Heap.IsSliceOf.new _ vl vu vs) pl pu ps ?_ z) (by with_unfolding_all rfl)
  have new : (xs.drop 1).reverse.length ≤ sizeLine := by
    rw [List.length_reverse, List.length_drop]
    exact Nat.le_trans (Nat.sub_le _ _) sz
  exact ⟨.ref _, _, I5.laid (t' := s4.toks) (o := .tup (xs.drop 1).reverse) (fun _ _ => Heap.get?_push_of_some _) (Nat.le_refl _) ⟨new, _, (ru.drop 1).reverse, IsTup.new _ _⟩, rfl, q _ (I5.hok.fresh (Nat.le_refl _))⟩
theorem ev_back {K : PySem.W.Frag} {ρ ρ1 : En} {te : TE} {ds : List D} (h : EvD te ρ ρ1 (.va (.tup ds))) : EvD (tBack K te) ρ ρ1 (.va (.tup (ds.drop 1).reverse)) := fun t G0 H0 κ τ G H σ hl m Q q => by
  refine h t G0 H0 κ τ G H σ hl m _ fun v G1 H1 m1 => ?_
  have w := m1.last.rep
  cases w with
  | @tup a xs _ h1 h2 => exact ⟨a, xs, rfl, SqT.of (m1.gr.gh _ _ h1), fun p hp => q _ _ _ ((m1.pop.new hp).push (.tup upd_same ((h2.drop 1).reverse.up (same_upd (m1.gr.gh.free hp)))))⟩
end DL
end

section
set_option maxRecDepth 100000
set_option maxHeartbeats 4000000
/-! enumerate, zip, dict comprehensions, tuples assigned, keyword calls, by data. -/
namespace DL
open PySem PySem.Spec PyProof.Rows L2 MN K17

/-! ### enumerate, zip -/
def enumD (ds : List D) : List D := (List.range ds.length).map fun i => .tup [nD i, ds.getD i .non]
theorem enumD_at {ds : List D} {i : Nat} {d : D} (h : (enumD ds)[i]? = some d) : ∃ e, ds[i]? = some e ∧ d = .tup [nD i, e] := by
  unfold enumD at h
  rw [List.getElem?_map] at h
  cases hr : (List.range ds.length)[i]? with
  | none => rw [hr] at h; cases h
  | some j =>
    rw [hr] at h
    have hi : i < ds.length := by have := (List.getElem?_eq_some_iff.mp hr).1; simpa using this
    rw [List.getElem?_range hi] at hr
    cases hr
    cases h
    exact ⟨ds[i], List.getElem?_eq_getElem hi, by show D.tup [nD i, ds.getD i .non] = _; rw [List.getD_eq_getElem?_getD, List.getElem?_eq_getElem hi] <;> rfl⟩
theorem enumD_length (ds : List D) : (enumD ds).length = ds.length := by unfold enumD; simp
section
variable {K : PySem.W.Frag} {ρ ρ1 : En} {ds es : List D}
theorem itd_enumT {G : Hp} {a : Addr} {xs : List V} (h : G a = some (.tup xs)) (r : Reps G xs ds) : ItD (IteT K a) (enumD ds) G where
  go := fun i G' H' s1 s2 hi => by
    rw [enumD_length] at hi
    obtain ⟨x, hx⟩ : ∃ x, xs[i]? = some x := ⟨xs[i]'(by rw [r.length]; exact hi), List.getElem?_eq_getElem _⟩
    exact ⟨xs, x, SqT.of (s2 _ _ (s1 _ _ h)), hx⟩
  stop := fun G' H' s1 s2 => ⟨xs, SqT.of (s2 _ _ (s1 _ _ h)), by rw [r.length, enumD_length]⟩
  yld := fun i d G' H' x H'' s1 s2 hd y => by
    obtain ⟨T, v, rfl, hT, rfl, y⟩ := y
    obtain ⟨e, he, rfl⟩ := enumD_at hd
    obtain ⟨u, hu, w⟩ := r.get he
    have e2 := y xs (SqT.of (s2 _ _ (s1 _ _ h)))
    rw [hu] at e2; cases e2
    exact ⟨upd G' T (.tup [.int (i : Nat), v]), Al.new hT, .tup upd_same (.cons (.int _) (.cons (w.up (s1.trans (same_upd (s2.free hT)))) .nil))⟩
theorem itd_enumL {G : Hp} {a : Addr} {xs : List V} (h : G a = some (.lst xs)) (r : Reps G xs ds) : ItD (Ite K a) (enumD ds) G where
  go := fun i G' H' s1 s2 hi => by
    rw [enumD_length] at hi
    obtain ⟨x, hx⟩ : ∃ x, xs[i]? = some x := ⟨xs[i]'(by rw [r.length]; exact hi), List.getElem?_eq_getElem _⟩
    exact ⟨xs, x, SqL.of (s2 _ _ (s1 _ _ h)), hx⟩
  stop := fun G' H' s1 s2 => ⟨xs, SqL.of (s2 _ _ (s1 _ _ h)), by rw [r.length, enumD_length]; exact Nat.le_refl _⟩
  yld := fun i d G' H' x H'' s1 s2 hd y => by
    obtain ⟨T, v, rfl, hT, rfl, y⟩ := y
    obtain ⟨e, he, rfl⟩ := enumD_at hd
    obtain ⟨u, hu, w⟩ := r.get he
    have e2 := y xs (SqL.of (s2 _ _ (s1 _ _ h)))
    rw [hu] at e2; cases e2
    exact ⟨upd G' T (.tup [.int (i : Nat), v]), Al.new hT, .tup upd_same (.cons (.int _) (.cons (w.up (s1.trans (same_upd (s2.free hT)))) .nil))⟩
theorem ei_enumT {ts : TA} (h : EvA ts ρ ρ1 [.va (.tup ds)]) : EvI (iEnumT K ts) ρ ρ1 (enumD ds) := fun t G0 H0 κ τ G H σ hl m R q =>
  EvA.all (xs := [.tup ds]) h hl m fun vs G1 H1 m1 rs => by
    cases rs with
    | cons r1 r2 =>
      cases r2
      cases r1 with
      | @tup a xs _ h1 h2 => exact ⟨a, xs, rfl, SqT.of (m1.gr.gh _ _ h1), q _ G1 H1 m1 (itd_enumT h1 h2)⟩
theorem ei_enumL {ts : TA} (h : EvA ts ρ ρ1 [.va (.lst ds)]) : EvI (iEnum K ts) ρ ρ1 (enumD ds) := fun t G0 H0 κ τ G H σ hl m R q =>
  EvA.all (xs := [.lst ds]) h hl m fun vs G1 H1 m1 rs => by
    cases rs with
    | cons r1 r2 =>
      cases r2
      cases r1 with
      | @lst a xs _ h1 h2 => exact ⟨a, xs, rfl, SqL.of (m1.gr.gh _ _ h1), q _ G1 H1 m1 (itd_enumL h1 h2)⟩
/-- pairs of two -/
def zipD (ds es : List D) : List D := (ds.zip es).map fun p => .tup [p.1, p.2]
theorem zipD_at {i : Nat} {d : D} (h : (zipD ds es)[i]? = some d) : ∃ x y, ds[i]? = some x ∧ es[i]? = some y ∧ d = .tup [x, y] := by
  unfold zipD at h
  rw [List.getElem?_map] at h
  cases hr : (ds.zip es)[i]? with
  | none => rw [hr] at h; cases h
  | some p =>
    rw [hr] at h; cases h
    obtain ⟨h1, h2⟩ := List.getElem?_zip_eq_some.mp hr
    exact ⟨p.1, p.2, h1, h2, rfl⟩
theorem zipD_length : (zipD ds es).length = min ds.length es.length := by unfold zipD; simp
theorem itd_zipL {G : Hp} {a b : Addr} {xs ys : List V} (h : G a = some (.lst xs)) (r : Reps G xs ds) (h' : G b = some (.lst ys)) (r' : Reps G ys es) : ItD (Itz K a b) (zipD ds es) G where
  go := fun i G' H' s1 s2 hi => by
    rw [zipD_length] at hi
    obtain ⟨x, hx⟩ : ∃ x, xs[i]? = some x := ⟨xs[i]'(by rw [r.length]; omega), List.getElem?_eq_getElem _⟩
    obtain ⟨y, hy⟩ : ∃ y, ys[i]? = some y := ⟨ys[i]'(by rw [r'.length]; omega), List.getElem?_eq_getElem _⟩
    exact ⟨xs, ys, x, y, SqL.of (s2 _ _ (s1 _ _ h)), SqL.of (s2 _ _ (s1 _ _ h')), hx, hy⟩
  stop := fun G' H' s1 s2 => ⟨xs, ys, SqL.of (s2 _ _ (s1 _ _ h)), SqL.of (s2 _ _ (s1 _ _ h')), by rw [r.length, r'.length, zipD_length]; omega⟩
  yld := fun i d G' H' x H'' s1 s2 hd y => by
    obtain ⟨T, v, v', rfl, hT, rfl, y, y'⟩ := y
    obtain ⟨e, e', he, he', rfl⟩ := zipD_at hd
    obtain ⟨u, hu, w⟩ := r.get he
    obtain ⟨u', hu', w'⟩ := r'.get he'
    have e2 := y xs (SqL.of (s2 _ _ (s1 _ _ h)))
    rw [hu] at e2; cases e2
    have e2 := y' ys (SqL.of (s2 _ _ (s1 _ _ h')))
    rw [hu'] at e2; cases e2
    have up := s1.trans (same_upd (o := .tup [v, v']) (s2.free hT))
    exact ⟨upd G' T (.tup [v, v']), Al.new hT, .tup upd_same (.cons (w.up up) (.cons (w'.up up) .nil))⟩
theorem itd_zipT {G : Hp} {a b : Addr} {xs ys : List V} (h : G a = some (.tup xs)) (r : Reps G xs ds) (h' : G b = some (.tup ys)) (r' : Reps G ys es) : ItD (RZ.ItzT K a b) (zipD ds es) G where
  go := fun i G' H' s1 s2 hi => by
    rw [zipD_length] at hi
    obtain ⟨x, hx⟩ : ∃ x, xs[i]? = some x := ⟨xs[i]'(by rw [r.length]; omega), List.getElem?_eq_getElem _⟩
    obtain ⟨y, hy⟩ : ∃ y, ys[i]? = some y := ⟨ys[i]'(by rw [r'.length]; omega), List.getElem?_eq_getElem _⟩
    exact ⟨xs, ys, x, y, SqT.of (s2 _ _ (s1 _ _ h)), SqT.of (s2 _ _ (s1 _ _ h')), hx, hy⟩
  stop := fun G' H' s1 s2 => ⟨xs, ys, SqT.of (s2 _ _ (s1 _ _ h)), SqT.of (s2 _ _ (s1 _ _ h')), by rw [r.length, r'.length, zipD_length]; omega⟩
  yld := fun i d G' H' x H'' s1 s2 hd y => by
    obtain ⟨T, v, v', rfl, hT, rfl, y, y'⟩ := y
    obtain ⟨e, e', he, he', rfl⟩ := zipD_at hd
    obtain ⟨u, hu, w⟩ := r.get he
    obtain ⟨u', hu', w'⟩ := r'.get he'
    have e2 := y xs (SqT.of (s2 _ _ (s1 _ _ h)))
    rw [hu] at e2; cases e2
    have e2 := y' ys (SqT.of (s2 _ _ (s1 _ _ h')))
    rw [hu'] at e2; cases e2
    have up := s1.trans (same_upd (o := .tup [v, v']) (s2.free hT))
    exact ⟨upd G' T (.tup [v, v']), Al.new hT, .tup upd_same (.cons (w.up up) (.cons (w'.up up) .nil))⟩
theorem ei_zipL {ts : TA} (h : EvA ts ρ ρ1 [.va (.lst ds), .va (.lst es)]) : EvI (RZ.iZipA K ts) ρ ρ1 (zipD ds es) := fun t G0 H0 κ τ G H σ hl m R q =>
  EvA.all (xs := [.lst ds, .lst es]) h hl m fun vs G1 H1 m1 rs => by
    cases rs with
    | cons r1 r2 =>
      cases r2 with
      | cons r2 r3 =>
        cases r3
        cases r1 with
        | @lst a xs _ h1 h2 =>
          cases r2 with
          | @lst b ys _ h3 h4 => exact ⟨a, b, xs, ys, rfl, .inl ⟨SqL.of (m1.gr.gh _ _ h1), SqL.of (m1.gr.gh _ _ h3), q _ G1 H1 m1 (itd_zipL h1 h2 h3 h4)⟩⟩
theorem ei_zipT {ts : TA} (h : EvA ts ρ ρ1 [.va (.tup ds), .va (.tup es)]) : EvI (RZ.iZipA K ts) ρ ρ1 (zipD ds es) := fun t G0 H0 κ τ G H σ hl m R q =>
  EvA.all (xs := [.tup ds, .tup es]) h hl m fun vs G1 H1 m1 rs => by
    cases rs with
    | cons r1 r2 =>
      cases r2 with
      | cons r2 r3 =>
        cases r3
        cases r1 with
        | @tup a xs _ h1 h2 =>
          cases r2 with
          | @tup b ys _ h3 h4 => exact ⟨a, b, xs, ys, rfl, .inr ⟨SqT.of (m1.gr.gh _ _ h1), SqT.of (m1.gr.gh _ _ h3), q _ G1 H1 m1 (itd_zipT h1 h2 h3 h4)⟩⟩
theorem piZip {X : Cx} {e e2 : Expr} {ta : TA} {p pos tpos : Pos} {elts : List Expr} {kk : Nat} (K : PySem.W.Frag) (hg : Gl X "zip") (hm : X.mg "zip" = none) (ha : PA X [e, e2] ta)
    (hs : starEach [e, e2] X.env = (false, eval e X.env) :: starEach [e2] X.env := by rfl) (hpl : (backTo pos (starEach [e2] X.env)).any (·.1) = false := by rfl) (hK : X.K = K := by rfl) :
    PI X (.Tuple elts kk tpos) (.Call (.Name "zip" p) [e, e2] [] pos) (RZ.iZipA K ta) := by subst hK; exact RZ.pi_zipA hg hm ha hs hpl
theorem piEnumL {X : Cx} {e : Expr} {ta : TA} {p pos tpos : Pos} {elts : List Expr} {kk : Nat} (K : PySem.W.Frag) (hg : Gl X "enumerate") (hm : X.mg "enumerate" = none) (ha : PA X [e] ta) (hs : starEach [e] X.env = [(false, eval e X.env)] := by rfl) (hK : X.K = K := by rfl) :
    PI X (.Tuple elts kk tpos) (.Call (.Name "enumerate" p) [e] [] pos) (iEnum K ta) := by subst hK; exact pi_enum hg hm ha hs

/-! ### a dict comprehension of seen places -/
theorem tYes_go {σ : L2.St} {H : Hp} {Q : Bool → Hp → Prop} (h : Q true H) : tYes σ H Q := h
theorem ite_go {a b : Prop} (h : a) : if (true : Bool) = true then a else b := by rw [if_pos rfl]; exact h
theorem ev_dcSeen {α : Type} {tk tv : TE} {g : TG} {wi : TI} {vs js : List Nat} (xs : List α) (enc : α → D) (f : α → Nat) (ρx : α → En) (hi : EvI wi ρ ρ1 (xs.map enc)) (hz : xs.length ≤ 100000) (hl : ρ1.length = ρ.length)
    (hg : ∀ x, x ∈ xs → EvG g js (.va (enc x)) (wipeE ρ1 vs) (ρx x)) (hk : ∀ x, x ∈ xs → EvD tk (ρx x) (ρx x) (.va (nD (f x)))) (hv : ∀ x, x ∈ xs → EvD tv (ρx x) (ρx x) (.va (.bl true)))
    (hw : ∀ x, x ∈ xs → wipeE (ρx x) vs = wipeE ρ1 vs) (hj : ∀ k ∈ js, k ∈ vs) : EvD (tDc wi g tYes tk tv vs) ρ (wipeE ρ1 vs) (.ow (seenD ((xs.map f).foldl put []))) := fun t G0 H0 κ τ G H σ hl0 m Q q => by
  refine hi t G0 H0 κ τ G H σ hl0 m _ fun J G1 H1 m1 it => ?_
  intro Da hD
  have ht := m.len2 (ρ' := ρ) hl0
  have hl1 : σ.length = ρ1.length := m1.len4 ht
  have lw : (wipe σ vs).length = (wipeE ρ1 vs).length := by rw [wipe_length, wipeE_length, hl1]
  have hlen : (xs.map enc).length = xs.length := List.length_map ..
  let S : Nat → List Nat := fun i => ((xs.take i).map f).foldl put []
  have Sl_ : ∀ (l m : List Nat), (l.foldl put m).length ≤ m.length + l.length := by
    intro l
    induction l with
    | nil => intro m; simp
    | cons a l ih => intro m; rw [List.foldl_cons, List.length_cons]; have := ih (put m a); have := put_length m a; omega
  let W : Nat → Hp → Prop := fun i H' => ∃ G', Same G1 G' ∧ Mt t G0 H0 (wipeE ρ1 vs ++ (κ ++ [.ow (seenD (S i))])) G' H' (wipe σ vs ++ (τ ++ [some (.ref Da)]))
  refine ⟨fun i n H' => n = xs.length - i ∧ i ≤ xs.length ∧ W i H', ⟨_, rfl, Nat.zero_le _, G1, Same.refl G1, ?_⟩, fun i n H' hw' => ?_⟩
  · have m3 := (m1.wipe hl1 vs).pushOw (d := seenD []) hD (cont_seen.mpr upd_same)
    rw [List.append_assoc, List.append_assoc] at m3
    exact m3
  · obtain ⟨rfl, hin, G', s1, mw⟩ := hw'
    by_cases hlt : i < xs.length
    · refine .inr ⟨it.go i G' H' s1 mw.gr.gh (by rw [hlen]; exact hlt), fun H'' => W (i + 1) H'', fun H'' w => ⟨xs.length - (i + 1), by omega, rfl, hlt, w⟩, fun x H2 y => ?_⟩
      have hx : xs[i]? = some xs[i] := List.getElem?_eq_getElem hlt
      have hm : xs[i] ∈ xs := List.getElem_mem hlt
      obtain ⟨G2, al, rx⟩ := it.yld i (enc xs[i]) G' H' x H2 s1 mw.gr.gh (by rw [List.getElem?_map, hx]; rfl) y
      have s2 : Same G1 G2 := s1.trans (al.grows mw.gr.gh)
      obtain ⟨Hb, mb, _, back⟩ := ((mw.al al).push rx).based
      have lk : (τ ++ [some (V.ref Da)]).length = (κ ++ [Sl.ow (seenD (S i))]).length := by simp [ht]
      refine hg _ hm t _ _ _ _ G2 H2 (wipe σ vs) x lw mb _ fun σ3 G3 H3 l3 k3 m3 => ?_
      have hw3 : wipe σ3 vs = wipe (wipe σ vs) vs := wipe_eq l3 fun k hk => k3 k fun z => hk (hj k z)
      have hww : wipe (wipe σ vs) vs = wipe σ vs := wipe_eq (wipe_length _ _) fun k hk => wipe_out hk
      have hl3 : σ3.length = (ρx xs[i]).length := m3.len4 lk
      refine ⟨hw3.trans hww, ?_⟩
      refine tYes_go (ite_go ?_)
      refine hk _ hm t _ _ _ _ G3 H3 σ3 hl3 m3 _ fun u G4 H4 m4 => ?_
      have w4 := m4.last.rep
      cases w4
      refine hv _ hm t _ _ _ _ G4 H4 σ3 hl3 m4.pop _ fun u G5 H5 m5 => ?_
      have w5 := m5.last.rep
      cases w5
      have m5' := m5.pop
      have hk' : (ρx xs[i] ++ (κ ++ [Sl.ow (seenD (S i))]))[(ρx xs[i]).length + κ.length]? = some (.ow (seenD (S i))) := by simp
      have hv' : (σ3 ++ (τ ++ [some (V.ref Da)]))[(ρx xs[i]).length + κ.length]? = some (some (.ref Da)) := by rw [← hl3, ← ht]; simp
      obtain ⟨a, e1, ga, h0a, c⟩ := m5'.ow hk'
      rw [hv'] at e1; cases e1
      refine ⟨_, Sum.inl ((f xs[i] : Nat) : Int), rfl, cont_seen.mp c, ?_, ?_⟩
      · rw [seenK_length]
        refine small_lt ?_
        have := Sl_ ((xs.take i).map f) []
        rw [List.length_map, List.length_take, List.length_nil] at this
        show (((xs.take i).map f).foldl put []).length < _
        omega
      · have e2 : put (S i) (f xs[i]) = S (i + 1) := by
          show _ = ((xs.take (i + 1)).map f).foldl put []
          rw [List.take_add_one, hx, List.map_append, List.foldl_append] <;> rfl
        rw [put_seen, e2]
        have m6 := m5'.writeOw (o := .dK (seenK (put (S i) (f xs[i])))) (d' := seenD (put (S i) (f xs[i]))) hk' hv' (cont_seen.mpr upd_same)
        have es : (ρx xs[i] ++ (κ ++ [Sl.ow (seenD (S i))])).set ((ρx xs[i]).length + κ.length) (.ow (seenD (put (S i) (f xs[i])))) = ρx xs[i] ++ (κ ++ [Sl.ow (seenD (put (S i) (f xs[i])))]) := by
          rw [List.set_append_right _ _ (by omega), Nat.add_sub_cancel_left, List.set_append_right _ _ (Nat.le_refl _), Nat.sub_self]
          rfl
        rw [es] at m6
        rw [e2] at m6
        have m7 := m6.wipe hl3 vs
        rw [hw3, hww, hw _ hm] at m7
        obtain ⟨m8, s6⟩ := back _ _ _ _ m7
        exact ⟨G5, s2.trans s6, m8⟩
    · have ei : i = xs.length := by omega
      subst ei
      refine .inl ⟨by have := it.stop G' H' s1 mw.gr.gh; rwa [hlen] at this, ?_⟩
      have m7 := mw.unwipe (by rw [hl1])
      have e3 : S xs.length = (xs.map f).foldl put [] := by show ((xs.take xs.length).map f).foldl put [] = _; rw [List.take_length]
      rw [e3, ← List.append_assoc, ← List.append_assoc] at m7
      exact q _ G' H' m7

/-! ### two things through a tuple -/
theorem run_tup2 {C : Addr} {E : XK} {po : Po} {i j : Nat} {ts : TA} {r1 r2 : Sl} (h : EvA ts ρ ρ1 [r1, r2]) (hn : po.nx ((ρ1.set i r1).set j r2)) (hij : i ≠ j) : Run C E (tAsg (tTup ts) (gTup K 2 (gCons (gName i) (gCons (gName j) gNil)))) ρ po := fun t G0 H0 G H σ m Ds s => by
  refine h t G0 H0 [] [] G H σ m.len m.nil _ fun vs G' H' lv m' => ?_
  match vs, lv with
  | [v, w], _ =>
    refine ⟨small_of (by simp), fun p hp => ?_⟩
    refine ⟨p, [v, w], rfl, SqT.of upd_same, rfl, v, [w], rfl, w, [], rfl, rfl, ?_⟩
    have m' : Mt t G0 H0 (ρ1 ++ [r1] ++ [r2]) G' H' (σ ++ [some v] ++ [some w]) := by simpa using m'
    have m' := m'.new (o := .tup [v, w]) hp
    have hl : σ.length = ρ1.length := by have := m'.len; simp at this; omega
    have m2 := m'.store hl j
    have m3 := (show Mt t G0 H0 (ρ1.set j r2 ++ [] ++ [r1]) _ _ (σ.set j (some w) ++ [] ++ [some v]) by simpa using m2).store (by simp [hl]) i
    rw [List.append_nil, List.append_nil, List.set_comm _ _ (Ne.symm hij), List.set_comm _ _ (Ne.symm hij)] at m3
    exact s.nx _ _ _ _ hn m3
end
end DL
end

section
set_option maxRecDepth 100000
set_option maxHeartbeats 4000000
/-! Keyword calls, ranges, all, any, or, extend by a tuple, by data. -/
namespace DL
open PySem PySem.Spec PyProof.Rows L2 MN K17
section
variable {K : PySem.W.Frag} {ρ ρ1 ρ2 : En} {ds es : List D} {ts : TA} {te ta tb : TE} {d : D}
theorem ei_rangeI {n : Int} (h : EvA ts ρ ρ1 [.va (.int n)]) (h0 : -100 ≤ n) (hn : n ≤ 100000) : EvI (iRng1 ts) ρ ρ1 ((List.range n.toNat).map nD) := fun t G0 H0 κ τ G H σ hl m R q =>
  EvA.all (xs := [.int n]) h hl m fun vs G1 H1 m1 rs => by
    cases rs with
    | cons r1 r2 =>
      cases r2
      cases r1
      refine ⟨n, rfl, by omega, by omega, q _ G1 H1 m1 ?_⟩
      have z := itd_range (G := G1) (lo := 0) (n := n.toNat)
      simpa using z
theorem rgV_nats {G : Hp} (n : Nat) : Reps G (rgV 0 (n : Int)) ((List.range n).map nD) := by
  have e : rgV 0 (n : Int) = ((List.range n).map fun (k : Nat) => (k : Int)).map V.int := by
    unfold rgV
    rw [List.map_map]
    have : ((n : Int) - 0).toNat = n := by omega
    rw [this]
    refine List.map_congr_left fun i _ => ?_
    show V.int (0 + (i : Int)) = V.int (i : Int)
    rw [Int.zero_add]
  rw [e]; exact reps_nats
theorem rgV_nats2 {G : Hp} (a n : Nat) : Reps G (rgV (a : Int) ((a + n : Nat) : Int)) ((List.range n).map fun i => nD (a + i)) := by
  have e : rgV (a : Int) ((a + n : Nat) : Int) = (((List.range n).map fun k => a + k).map fun (k : Nat) => (k : Int)).map V.int := by
    unfold rgV
    rw [List.map_map, List.map_map]
    have : (((a + n : Nat) : Int) - (a : Int)).toNat = n := by omega
    rw [this]
    refine List.map_congr_left fun i _ => ?_
    show V.int ((a : Int) + (i : Int)) = V.int ((a + i : Nat) : Int)
    congr 1
  have e2 : ((List.range n).map fun i => nD (a + i)) = ((List.range n).map fun k => a + k).map nD := by rw [List.map_map]; rfl
  rw [e, e2]; exact reps_nats
theorem ev_tupRg {n : Nat} (h : EvD ta ρ ρ1 (.va (nD n))) (hn : n ≤ 100000) : EvD (tTupRg (tRg1 ta)) ρ ρ1 (.va (nT (List.range n))) := fun t G0 H0 κ τ G H σ hl m Q q => by
  refine h t G0 H0 κ τ G H σ hl m _ fun v G1 H1 m1 => ?_
  have w := m1.last.rep
  cases w
  exact ⟨_, rfl, RgOk.of_le (by omega) (by omega) (by omega) (by omega), fun p hp => q _ _ _ ((m1.pop.new hp).push (.tup upd_same ((rgV_nats (G := G1) n).up (same_upd (m1.gr.gh.free hp)))))⟩
theorem ev_tupRg2 {a n : Nat} (ha : EvD ta ρ ρ1 (.va (nD a))) (hb : EvD tb ρ1 ρ2 (.va (nD (a + n)))) (hn : a + n ≤ 100000) : EvD (tTupRg (tRg2 ta tb)) ρ ρ2 (.va (.tup ((List.range n).map fun i => nD (a + i)))) := fun t G0 H0 κ τ G H σ hl m Q q => by
  refine EvD.two ha hb hl m (Q := fun v u H2 => ∃ i j, v = .int i ∧ u = .int j ∧ RgOk i j ∧ ∀ p, H2 p = none → Q (.ref p) (upd H2 p (.tup (rgV i j)))) fun v u G1 H1 m1 => ?_
  obtain ⟨m0, hx, hy⟩ := m1.tail2
  have w1 := hx.rep
  have w2 := hy.rep
  cases w1
  cases w2
  exact ⟨_, _, rfl, rfl, RgOk.of_le (by omega) (by omega) (by omega) (by omega), fun p hp => q _ _ _ ((m0.new hp).push (.tup upd_same ((rgV_nats2 (G := G1) a n).up (same_upd (m0.gr.gh.free hp)))))⟩
theorem ev_lstRg {n : Nat} (h : EvD ta ρ ρ1 (.va (nD n))) (hn : n ≤ 100000) : EvD (tLstRg (tRg1 ta)) ρ ρ1 (.ow (nL (List.range n))) := fun t G0 H0 κ τ G H σ hl m Q q => by
  refine h t G0 H0 κ τ G H σ hl m _ fun v G1 H1 m1 => ?_
  have w := m1.last.rep
  cases w
  exact ⟨_, rfl, RgOk.of_le (by omega) (by omega) (by omega) (by omega), fun p hp => q _ _ _ (m1.pop.pushOw hp ⟨_, upd_same, rgV_nats n⟩)⟩
theorem cv_allM {α : Type} {xs : List α} {g : α → Bool} : CallV (rAll K) [.lst (xs.map fun x => .bl (g x))] (.bl (xs.all g)) := by
  have z := cv_all (K := K) (bs := xs.map g)
  rw [List.map_map, List.all_map] at z
  exact z
theorem cv_anyM {α : Type} {xs : List α} {g : α → Bool} : CallV (rAny K) [.lst (xs.map fun x => .bl (g x))] (.bl (xs.any g)) := by
  have z := cv_any (K := K) (bs := xs.map g)
  rw [List.map_map, List.any_map] at z
  exact z
/-- xs or ys, lists -/
theorem ev_orL {r : Sl} (ha : EvD ta ρ ρ1 (.ow (.lst ds))) (hb : ds = [] → EvD tb ρ1 ρ1 (.ow (.lst es))) : EvD (tOrT K ta tb) ρ ρ1 (.ow (.lst (if ds.isEmpty then es else ds))) := fun t G0 H0 κ τ G H σ hl m Q q => by
  refine ha t G0 H0 κ τ G H σ hl m _ fun v G1 H1 m1 => ?_
  obtain ⟨a, e, _, _, xs, hx, rx⟩ := m1.last
  cases e
  cases ds with
  | nil =>
    cases rx
    refine ⟨false, .inl ⟨[], SqL.of hx, rfl⟩, ?_⟩
    have hl1 := m1.pop.len4 (m.len2 (ρ' := ρ) hl)
    exact hb rfl t G0 H0 κ τ G1 H1 σ hl1 m1.pop Q q
  | cons d ds =>
    cases rx with
    | cons r1 r2 => exact ⟨true, .inl ⟨_, SqL.of hx, rfl⟩, q _ G1 H1 m1⟩
theorem ev_extendT {i : Nat} (h0 : ρ[i]? = some (.ow (.lst ds))) (h : EvD te ρ ρ1 (.va (.tup es))) (hi : ρ1[i]? = some (.ow (.lst ds))) (hz : ds.length + es.length < 100000) :
    EvD (tBM K "list" (rExtendT K) (tVar i) (tCons te tNil)) ρ (ρ1.set i (.ow (.lst (ds ++ es)))) (.va .non) := fun t G0 H0 κ τ G H σ hl m Q q => by
  obtain ⟨a, ea, _, _, xs, hx, _⟩ := m.frontAt hl h0
  refine ⟨_, ea, .inl ⟨rfl, xs, SqL.of hx⟩, ?_⟩
  refine h t G0 H0 κ τ G H σ hl m _ fun v G1 H1 m1 => ?_
  have w := m1.last.rep
  have m2 := m1.pop
  have hl1 := m2.len4 (m.len2 (ρ' := ρ) hl)
  obtain ⟨a', ea', eb, hb, ys, hy, ry⟩ := m2.frontAt hl1 hi
  rw [ea] at ea'; cases ea'
  cases w with
  | @tup b zs _ h1 h2 =>
    refine ⟨a, b, ys, zs, rfl, rfl, hy, SqT.of (m2.gr.gh _ _ h1), ?_, ?_⟩
    · rw [ry.length, h2.length]; exact small_of (by omega)
    · have m3 := m2.writeOw (o := .lst (ys ++ zs)) (d' := .lst (ds ++ es)) hb eb ⟨_, upd_same, ry.append h2⟩
      rw [set_app (List.getElem?_eq_some_iff.mp hi).1] at m3
      exact q _ _ _ (m3.push .non)
end

/-! ### calls by keywords only, in the parameters' turned order -/
/-- a def with its promise, called f(lot=.., web=..) -/
structure CalK (P : Program) (w : World) (K : PySem.W.Frag) (mg : Str → Option Value) (base : Heap) (k : Nat) (x : Str) (ps : List Str) (sp : Sp) : Prop where
  ex : ∃ (f : Addr) (fd : FuncData), FnOk P w K mg base (L2.CX P w) k f fd ps sp ∧ mg x = some (.ref f) ∧ PySem.W.keepIn K (.ref f) = true ∧ Binds K fd ps [] ∧ KBinds K fd ps ps.reverse (fun us ws => us ++ ws.reverse) (fun vs zs => vs ++ zs.reverse)
theorem CalK.cal {P : Program} {w : World} {K : PySem.W.Frag} {mg : Str → Option Value} {base : Heap} {k : Nat} {x : Str} {ps : List Str} {sp : Sp} (c : CalK P w K mg base k x ps sp) : CalD P w K mg base k x ps sp := by
  obtain ⟨f, fd, F, hm, kp, b, _⟩ := c.ex
  exact ⟨f, fd, F, hm, kp, b⟩
/-- how the keywords bind -/
abbrev BindK (x : Str) (st : Stmt) (ps : List Str) : Prop := ∀ (kV doc pm : Value) (an : Option Addr) (cdv ct : Value) (us ws : List Value), (us ++ ws.reverse).length = ps.length → bindArgs (PySem.W.fnOf x x (defArgs st) (defBody st) (defScope st) .none kV doc pm an cdv ct) ⟨us, ps.reverse.zip ws⟩ = pure (ps.zip (us ++ ws.reverse))
def tCallR (sp : Sp) (E : XK) (tk : TA) : TE := fun σ H Q => tk σ H fun zs H1 => sp zs.reverse H1 Q E
section
variable {X : Cx} {k j : Nat} {x : Str} {ps : List Str} {sp : Sp} {p pos : Pos} {kws : List Keyword} {tk : TA} {E : XK}
theorem pe_dK (c : CalK X.prog X.w X.K X.mg X.base k x ps sp) (hr : Room j X.A) (hk : k ≤ j) (hg : Gl X x) (hx : Passes (L2.CX X.prog X.w) X E) (hkw : PK X kws tk)
    (hks : (backToKw pos (keywordEach kws X.env)).filterMap (·.1) = ps.reverse := by rfl) (hall : (backToKw pos (keywordEach kws X.env)).all (·.1.isSome) = true := by rfl)
    (hdb : (x == ("__debug__" : Str)) = false := by decide) (hpl : ((backTo pos (starEach [] X.env)).any (·.1) || (backToKw pos (keywordEach kws X.env)).any (·.1.isNone)) = false := by rfl) :
    PE X (.Call (.Name x p) [] kws pos) (tCallR sp E tk) := by
  obtain ⟨f, fd, F, hm, kp, _, b⟩ := c.ex
  refine ⟨fun pins s σ H Q I h => ?_⟩
  refine wpAny_Call_Name_kw (ld_glob I hg hm ?_ hdb)
  refine PySem.W.callWith_KW0 (h₀ := X.base) I.ok.mod.kin kp hall (thn (hkw.run pos pins s σ H _ I h) fun ws s1 ⟨zs, H1, I1, rz, q1⟩ => ⟨I1.kIn, ?_⟩) hpl
  rw [hks]
  refine run_fnk (us := []) (ws := ws) (vs := []) (zs := zs) F (hr.mono hk) b hx I1 .nil rz ?_
  rw [List.nil_append]
  exact q1
end
section
variable {C : Addr} {E : XK} {n : Nat} {rel : List D → Option D → Prop} {ρ ρ1 : En} {ts : TA} {a b d : D}
theorem ev_callR (h : EvA ts ρ ρ1 [.va b, .va a]) (hr : rel [a, b] (some d)) : EvD (tCallR (spD C 2 rel) E ts) ρ ρ1 (.va d) := fun t G0 H0 κ τ G H σ hl m Q q =>
  EvA.all (xs := [b, a]) h hl m fun vs G1 H1 m1 rs => by
    cases rs with
    | cons r1 r2 =>
      cases r2 with
      | cons r2 r3 =>
        cases r3
        refine ⟨G1, [a, b], some d, m1.gr.gh, .cons r2 (.cons r1 .nil), rfl, hr, fun d' e v G' H' g w => ?_, fun e => nomatch e⟩
        cases e
        exact q v G' H' ((m1.grow g).push w)
theorem rz_callR (h : EvA ts ρ ρ1 [.va b, .va a]) (hr : rel [a, b] none) : Rz C E (tCallR (spD C 2 rel) E ts) ρ := fun t G0 H0 G H σ m hE Q =>
  EvA.all (xs := [b, a]) h m.len m.nil fun vs G1 H1 m1 rs => by
    cases rs with
    | cons r1 r2 =>
      cases r2 with
      | cons r2 r3 =>
        cases r3
        exact ⟨G1, [a, b], (none : Option D), m1.gr.gh, .cons r2 (.cons r1 .nil), rfl, hr, fun d e => (nomatch (show (none : Option D) = some d from e)), fun _ G' H' g => hE G' H' (m1.gr.trans g)⟩
end
section
variable {P : Program} {w : World} {K : PySem.W.Frag} {mg : Str → Option Value} {base : Heap} {x : Str} {st : Stmt} {f : Addr} {fd : FuncData} {N ps : List Str} {k : Nat} {C : Addr} {rel : List D → Option D → Prop}
/-- a def, by positions and by keywords -/
theorem mkCalK (Dx : DefAt K mg x st f fd) (S : FnScope N ps (defScope st)) (hb : BindH x st ps) (hb2 : BindK x st ps) (hN : ps.length ≤ N.length)
    (body : ∀ (f : Addr) (cdv : Value) (A : Around) (outer : List Env) (s : Shared) (H : Hp) (E : XK), Room k (A.deeper (envOfC x (defScope st) s.heap.objs.size f cdv)) →
      ∀ ds r, ds.length = ps.length → rel ds r → ∃ ts, PSs (cX P w K mg base N x st f cdv A outer s H E) (defBody st) ts ∧ Run C E ts (ds.map Sl.va ++ List.replicate (N.length - ps.length) .un) (PoF r)) : CalK P w K mg base (k + 1) x ps (spD C ps.length rel) := by
  refine ⟨f, fd, Dx.fn.ok S (spD_len rfl) fun cdv A outer s H vs Q E hr h => ?_, Dx.mg, Dx.fn.kp, Dx.fn.bindsN hb, ⟨fun s us ws _ hl => ?_, fun r rz => r.append rz.reverse⟩⟩
  · obtain ⟨G, ds, r, sg, rs, hn, hrel, hQ, hE⟩ := h
    obtain ⟨ts, hp, z⟩ := body f cdv A outer s H E hr ds r hn hrel
    refine ⟨ts, hp, body_run (N := N) sg rs (by rw [rs.length, hn]; exact hN) hQ hE ?_⟩
    rw [← hn, ← rs.length] at z
    exact z
  · obtain ⟨oc, od, dV, kV, doc, pm, an, cdv, ct, osl, rfl, lk, hcd, hD, hK⟩ := Dx.fn.ex
    rcases hD with ⟨_, rfl⟩ | ⟨e, _⟩
    · exact .of_eq (hb2 kV doc pm an cdv ct us ws hl)
    · exact absurd rfl e
end
end DL
end

section
set_option maxRecDepth 100000
set_option maxHeartbeats 4000000
/-! A mutable slot left aside while an expression is read; raising. -/
namespace DL
open PySem PySem.Spec PyProof.Rows L2 MN K17
section
variable {t : Addr} {G0 H0 G H : Hp} {ρ ρ1 : En} {σ : L2.St} {i : Nat} {d : D}
theorem Mt.hide (m : Mt t G0 H0 ρ G H σ) (hi : ρ[i]? = some (.ow d)) : ∃ H1, Mt t G H1 (ρ.set i .un) G H σ ∧ ∀ (ρ' : En) (G' H' : Hp) (σ' : L2.St), Mt t G H1 ρ' G' H' σ' → i < ρ'.length → σ'[i]? = σ[i]? → Mt t G0 H0 (ρ'.set i (.ow d)) G' H' σ' := by
  obtain ⟨a, ea, ga, h0a, ca⟩ := m.ow hi
  have hlt : i < ρ.length := (List.getElem?_eq_some_iff.mp hi).1
  have at_ : ∀ {k : Nat} {r : Sl}, (ρ.set i .un)[k]? = some r → (k = i ∧ r = .un) ∨ (k ≠ i ∧ ρ[k]? = some r) := fun {k r} h => by
    by_cases hk : k = i
    · subst hk; rw [List.getElem?_set_self hlt] at h; cases h; exact .inl ⟨rfl, rfl⟩
    · rw [List.getElem?_set_ne (Ne.symm hk)] at h; exact .inr ⟨hk, h⟩
  have ownL : ∀ {b : Addr}, Own t (ρ.set i .un) σ b → Own t ρ σ b ∧ b ≠ a := fun {b} ⟨k, r, v, h1, h2, h3⟩ => by
    rcases at_ h1 with ⟨_, rfl⟩ | ⟨hk, h1⟩
    · cases h3
    · exact ⟨⟨k, r, v, h1, h2, h3⟩, fun e => m.nd k i r _ v _ a hk h1 h2 hi ea (e ▸ h3) rfl⟩
  have free : ∀ {b}, Own t (ρ.set i .un) σ b → G b = none ∧ H0 b = none ∧ ∃ o, H b = some o := fun {b} h => m.own_free (ownL h).1
  have na : ¬ Own t (ρ.set i .un) σ a := fun h => (ownL h).2 rfl
  have h1a : subO (Own t (ρ.set i .un) σ) H a ≠ none := by
    rw [subO_out na]
    obtain ⟨o, e⟩ := ca.some
    rw [e]; exact fun z => nomatch z
  have s0 : Same H0 (subO (Own t (ρ.set i .un) σ) H) := fun b x e => by
    have hb : ¬ Own t (ρ.set i .un) σ b := fun z => by rw [(free z).2.1] at e; cases e
    rw [subO_out hb]; exact m.gr.h b x e
  have fr : ∀ {b : Addr}, subO (Own t (ρ.set i .un) σ) H b = none → H0 b = none := fun {b} h => by
    cases e : H0 b with
    | none => rfl
    | some o => rw [s0 b o e] at h; cases h
  refine ⟨subO (Own t (ρ.set i .un) σ) H, ⟨⟨Same.refl G, fun b x e => ?_, m.gr.gh, fun _ h _ => h⟩, by rw [List.length_set]; exact m.len, fun k r v h1 h2 => ?_, fun k l r s v u b hkl h1 h2 h3 h4 e1 e2 => ?_⟩, fun ρ' G' H' σ' m' hl' es => ?_⟩
  · by_cases hb : Own t (ρ.set i .un) σ b
    · rw [subO_in hb] at e; cases e
    · rw [subO_out hb] at e; exact e
  · rcases at_ h1 with ⟨_, rfl⟩ | ⟨hk, h1'⟩
    · exact True.intro
    · have q := m.ok k r v h1' h2
      cases r with
      | un => exact True.intro
      | va d => exact q
      | ow d => obtain ⟨b, rfl, w1, w2, w3⟩ := q; exact ⟨b, rfl, w1, subO_in ⟨k, _, _, h1, h2, rfl⟩, w3⟩
      | ti d => obtain ⟨rfl, w1, w2, w3⟩ := q; exact ⟨rfl, w1, subO_in ⟨k, _, _, h1, h2, rfl⟩, w3⟩
  · rcases at_ h1 with ⟨_, rfl⟩ | ⟨_, h1⟩
    · cases e1
    · rcases at_ h3 with ⟨_, rfl⟩ | ⟨_, h3⟩
      · cases e2
      · exact m.nd k l r s v u b hkl h1 h2 h3 h4 e1 e2
  · have at' : ∀ {k : Nat} {r : Sl}, (ρ'.set i (.ow d))[k]? = some r → (k = i ∧ r = .ow d) ∨ (k ≠ i ∧ ρ'[k]? = some r) := fun {k r} h => by
      by_cases hk : k = i
      · subst hk; rw [List.getElem?_set_self hl'] at h; cases h; exact .inl ⟨rfl, rfl⟩
      · rw [List.getElem?_set_ne (Ne.symm hk)] at h; exact .inr ⟨hk, h⟩
    have none1 : ∀ {k : Nat} {r : Sl} {v : Option V} {b : Addr}, ρ'[k]? = some r → σ'[k]? = some v → ownA t r v = some b → b ≠ a := fun {k r v b} h1 h2 e z => h1a (z ▸ ((m'.ok k r v h1 h2).ow_at (d := d) e).2.1)
    have same' : Same H0 H' := fun b x e => m'.gr.h b x (s0 b x e)
    have n0 : ∀ b, G0 b = none → H0 b ≠ none → G' b = none := fun b q1 q2 => m'.gr.n b (m.gr.n b q1 q2) (by
      cases e : H0 b with
      | none => exact absurd e q2
      | some o => rw [s0 b o e]; exact fun z => nomatch z)
    refine ⟨⟨m.gr.g.trans m'.gr.g, same', m'.gr.gh, n0⟩, by rw [List.length_set]; exact m'.len, fun k r v h1 h2 => ?_, fun k l r s v u b hkl h1 h2 h3 h4 e1 e2 => ?_⟩
    · rcases at' h1 with ⟨rfl, rfl⟩ | ⟨hk, h1⟩
      · rw [es, ea] at h2
        cases h2
        exact ⟨a, rfl, m'.gr.n a ga h1a, h0a, ca.up m'.gr.g fun o e => m'.gr.h a o (by rw [subO_out na]; exact e)⟩
      · have q := m'.ok k r v h1 h2
        cases r with
        | un => exact True.intro
        | va d => exact q
        | ow d => obtain ⟨b, rfl, w1, w2, w3⟩ := q; exact ⟨b, rfl, w1, fr w2, w3⟩
        | ti d => obtain ⟨rfl, w1, w2, w3⟩ := q; exact ⟨rfl, w1, fr w2, w3⟩
    · rcases at' h1 with ⟨rfl, rfl⟩ | ⟨hk, h1'⟩
      · rcases at' h3 with ⟨rfl, rfl⟩ | ⟨hl, h3'⟩
        · exact hkl rfl
        · rw [es, ea] at h2
          cases h2
          cases e1
          exact none1 h3' h4 e2 rfl
      · rcases at' h3 with ⟨rfl, rfl⟩ | ⟨hl, h3'⟩
        · rw [es, ea] at h4
          cases h4
          cases e2
          exact none1 h1' h2 e1 rfl
        · exact m'.nd k l r s v u b hkl h1' h2 h3' h4 e1 e2
theorem EvD.hide {te : TE} {r : Sl} (i : Nat) (hi : ρ[i]? = some (.ow d)) (h1 : ρ1[i]? = some (.ow d)) (h : EvD te (ρ.set i .un) (ρ1.set i .un) r) : EvD te ρ ρ1 r := fun t G0 H0 κ τ G H σ hl m Q q => by
  have hlt : i < ρ.length := (List.getElem?_eq_some_iff.mp hi).1
  have hlt1 : i < ρ1.length := (List.getElem?_eq_some_iff.mp h1).1
  obtain ⟨H1, m1, back⟩ := m.hide (i := i) (d := d) (by rw [List.getElem?_append_left hlt]; exact hi)
  rw [set_app hlt] at m1
  refine h t G H1 κ τ G H σ (by rw [List.length_set]; exact hl) m1 Q fun v G' H' m' => ?_
  have hs : i < (σ ++ τ).length := by rw [List.length_append, hl]; omega
  have z := back _ G' H' _ m' (by simp; omega) (by rw [List.getElem?_append_left hs])
  have e : (ρ1.set i Sl.un ++ κ ++ [r]).set i (.ow d) = ρ1 ++ κ ++ [r] := by
    rw [List.append_assoc, set_app (by rw [List.length_set]; exact hlt1), List.set_set, List.append_assoc]
    congr 1
    apply List.ext_getElem?
    intro k
    by_cases hk : k = i
    · subst hk; rw [List.getElem?_set_self hlt1, h1]
    · rw [List.getElem?_set_ne (Ne.symm hk)]
  rw [e] at z
  exact q v G' H' z
end
theorem EvI.hide {t1 : TI} {ds : List D} {ρ ρ1 : En} {d : D} (i : Nat) (hi : ρ[i]? = some (.ow d)) (h1 : ρ1[i]? = some (.ow d)) (h : EvI t1 (ρ.set i .un) (ρ1.set i .un) ds) : EvI t1 ρ ρ1 ds := fun t G0 H0 κ τ G H σ hl m R q => by
  have hlt : i < ρ.length := (List.getElem?_eq_some_iff.mp hi).1
  have hlt1 : i < ρ1.length := (List.getElem?_eq_some_iff.mp h1).1
  obtain ⟨H1, m1, back⟩ := m.hide (i := i) (d := d) (by rw [List.getElem?_append_left hlt]; exact hi)
  rw [set_app hlt] at m1
  refine h t G H1 κ τ G H σ (by rw [List.length_set]; exact hl) m1 R fun J G' H' m' it => ?_
  have z := back _ G' H' _ m' (by simp; omega) rfl
  have e : (ρ1.set i Sl.un ++ κ).set i (.ow d) = ρ1 ++ κ := by
    rw [set_app (by rw [List.length_set]; exact hlt1), List.set_set]
    congr 1
    apply List.ext_getElem?
    intro k
    by_cases hk : k = i
    · subst hk; rw [List.getElem?_set_self hlt1, h1]
    · rw [List.getElem?_set_ne (Ne.symm hk)]
  rw [e] at z
  exact q J G' H' z it
/-! ### raising -/
abbrev tRz (C : Addr) (E : XK) : TS := fun _ _ H => E (.ref C) none H
theorem run_raise {C : Addr} {E : XK} {ρ : En} {po : Po} (h : po.rz) : Run C E (tRz C E) ρ po := fun t G0 H0 G H σ m Ds s => s.rz h G H m.gr
section
variable {P : Program} {w : World} {K : PySem.W.Frag} {mg : Str → Option Value} {base : Heap} {N : List Str} {x : Str} {st : Stmt} {f : Addr} {cdv : Value} {A : Around} {outer : List Env} {s : Shared} {H : Hp} {E : XK}
theorem takesC : Takes (cX P w K mg base N x st f cdv A outer s H E) (fun cls d _ H' => E cls d H') := takes_of rfl rfl rfl rfl
theorem passC : Passes (L2.CX P w) (cX P w K mg base N x st f cdv A outer s H E) E := passes_call takesC (fun _ _ _ _ h => h)
theorem ownC : PassesOwn (model P w) (cX P w K mg base N x st f cdv A outer s H E).A (cX P w K mg base N x st f cdv A outer s H E).env (cX P w K mg base N x st f cdv A outer s H E).xe := passes_of rfl
theorem psCan {C : Addr} {p pos pos' : Pos} (T : Txt K mg C) (hg : Gl (cX P w K mg base N x st f cdv A outer s H E) "CanNot") : PS (cX P w K mg base N x st f cdv A outer s H E) (.Raise (some (.Call (.Name "CanNot" p) [] [] pos)) none pos') (tRz C E) := ps_can T rfl takesC hg
end
end DL
end

section
set_option maxRecDepth 100000
set_option maxHeartbeats 4000000
/-! The text: defs, their names by slot, how arguments bind. -/
namespace K17
open PySem PySem.Spec PyProof.Rows L2 DL
abbrev N_is_number : List Str := ["thing"]
theorem sc_is_number : FnScope N_is_number ["thing"] (defScope s_is_number) := ⟨rfl, rfl, rfl, by decide +kernel, rfl, by decide +kernel, by decide +kernel⟩
theorem bd_is_number : BindH "is_number" s_is_number ["thing"] := fun _ _ _ _ _ _ us hl => match us, hl with | [_], _ => rfl
abbrev N_is_from : List Str := ["thing", "least"]
theorem sc_is_from : FnScope N_is_from ["thing", "least"] (defScope s_is_from) := ⟨rfl, rfl, rfl, by decide +kernel, rfl, by decide +kernel, by decide +kernel⟩
theorem bd_is_from : BindH "is_from" s_is_from ["thing", "least"] := fun _ _ _ _ _ _ us hl => match us, hl with | [_, _], _ => rfl
abbrev N_is_within : List Str := ["thing", "least", "most"]
theorem sc_is_within : FnScope N_is_within ["thing", "least", "most"] (defScope s_is_within) := ⟨rfl, rfl, rfl, by decide +kernel, rfl, by decide +kernel, by decide +kernel⟩
theorem bd_is_within : BindH "is_within" s_is_within ["thing", "least", "most"] := fun _ _ _ _ _ _ us hl => match us, hl with | [_, _, _], _ => rfl
abbrev N_is_long : List Str := ["thing", "length"]
theorem sc_is_long : FnScope N_is_long ["thing", "length"] (defScope s_is_long) := ⟨rfl, rfl, rfl, by decide +kernel, rfl, by decide +kernel, by decide +kernel⟩
theorem bd_is_long : BindH "is_long" s_is_long ["thing", "length"] := fun _ _ _ _ _ _ us hl => match us, hl with | [_, _], _ => rfl
abbrev N_tupled : List Str := ["value", "own"]
theorem sc_tupled : FnScope N_tupled ["value"] (defScope s_tupled) := ⟨rfl, rfl, rfl, by decide +kernel, rfl, by decide +kernel, by decide +kernel⟩
theorem bd_tupled : BindH "tupled" s_tupled ["value"] := fun _ _ _ _ _ _ us hl => match us, hl with | [_], _ => rfl
abbrev N_ascends : List Str := ["row", "k"]
theorem sc_ascends : FnScope N_ascends ["row"] (defScope s_ascends) := ⟨rfl, rfl, rfl, by decide +kernel, rfl, by decide +kernel, by decide +kernel⟩
theorem bd_ascends : BindH "ascends" s_ascends ["row"] := fun _ _ _ _ _ _ us hl => match us, hl with | [_], _ => rfl
abbrev N_set_of : List Str := ["row"]
theorem sc_set_of : FnScope N_set_of ["row"] (defScope s_set_of) := ⟨rfl, rfl, rfl, by decide +kernel, rfl, by decide +kernel, by decide +kernel⟩
theorem bd_set_of : BindH "set_of" s_set_of ["row"] := fun _ _ _ _ _ _ us hl => match us, hl with | [_], _ => rfl
abbrev N_is_guest_of : List Str := ["many", "thing", "own"]
theorem sc_is_guest_of : FnScope N_is_guest_of ["many", "thing"] (defScope s_is_guest_of) := ⟨rfl, rfl, rfl, by decide +kernel, rfl, by decide +kernel, by decide +kernel⟩
theorem bd_is_guest_of : BindH "is_guest_of" s_is_guest_of ["many", "thing"] := fun _ _ _ _ _ _ us hl => match us, hl with | [_, _], _ => rfl
abbrev N_is_web : List Str := ["thing", "own"]
theorem sc_is_web : FnScope N_is_web ["thing"] (defScope s_is_web) := ⟨rfl, rfl, rfl, by decide +kernel, rfl, by decide +kernel, by decide +kernel⟩
theorem bd_is_web : BindH "is_web" s_is_web ["thing"] := fun _ _ _ _ _ _ us hl => match us, hl with | [_], _ => rfl
abbrev N_sure_web : List Str := ["web", "own"]
theorem sc_sure_web : FnScope N_sure_web ["web"] (defScope s_sure_web) := ⟨rfl, rfl, rfl, by decide +kernel, rfl, by decide +kernel, by decide +kernel⟩
theorem bd_sure_web : BindH "sure_web" s_sure_web ["web"] := fun _ _ _ _ _ _ us hl => match us, hl with | [_], _ => rfl
abbrev N_sure_guest : List Str := ["web", "guest"]
theorem sc_sure_guest : FnScope N_sure_guest ["web", "guest"] (defScope s_sure_guest) := ⟨rfl, rfl, rfl, by decide +kernel, rfl, by decide +kernel, by decide +kernel⟩
theorem bd_sure_guest : BindH "sure_guest" s_sure_guest ["web", "guest"] := fun _ _ _ _ _ _ us hl => match us, hl with | [_, _], _ => rfl
abbrev N_unwanted_in : List Str := ["web", "known", "own", "place"]
theorem sc_unwanted_in : FnScope N_unwanted_in ["web"] (defScope s_unwanted_in) := ⟨rfl, rfl, rfl, by decide +kernel, rfl, by decide +kernel, by decide +kernel⟩
theorem bd_unwanted_in : BindH "unwanted_in" s_unwanted_in ["web"] := fun _ _ _ _ _ _ us hl => match us, hl with | [_], _ => rfl
abbrev N_is_lot_in : List Str := ["web", "thing", "many", "guest"]
theorem sc_is_lot_in : FnScope N_is_lot_in ["web", "thing"] (defScope s_is_lot_in) := ⟨rfl, rfl, rfl, by decide +kernel, rfl, by decide +kernel, by decide +kernel⟩
theorem bd_is_lot_in : BindH "is_lot_in" s_is_lot_in ["web", "thing"] := fun _ _ _ _ _ _ us hl => match us, hl with | [_, _], _ => rfl
abbrev N_sure_lot : List Str := ["web", "lot", "own"]
theorem sc_sure_lot : FnScope N_sure_lot ["web", "lot"] (defScope s_sure_lot) := ⟨rfl, rfl, rfl, by decide +kernel, rfl, by decide +kernel, by decide +kernel⟩
theorem bd_sure_lot : BindH "sure_lot" s_sure_lot ["web", "lot"] := fun _ _ _ _ _ _ us hl => match us, hl with | [_, _], _ => rfl
abbrev N_others_in : List Str := ["web", "lot", "guest"]
theorem sc_others_in : FnScope N_others_in ["web", "lot"] (defScope s_others_in) := ⟨rfl, rfl, rfl, by decide +kernel, rfl, by decide +kernel, by decide +kernel⟩
theorem bd_others_in : BindH "others_in" s_others_in ["web", "lot"] := fun _ _ _ _ _ _ us hl => match us, hl with | [_, _], _ => rfl
abbrev N_beside_by : List Str := ["web", "lot", "found", "place", "guest", "near", "far"]
theorem sc_beside_by : FnScope N_beside_by ["web", "lot"] (defScope s_beside_by) := ⟨rfl, rfl, rfl, by decide +kernel, rfl, by decide +kernel, by decide +kernel⟩
theorem bd_beside_by : BindH "beside_by" s_beside_by ["web", "lot"] := fun _ _ _ _ _ _ us hl => match us, hl with | [_, _], _ => rfl
abbrev N_part_from : List Str := ["known", "place", "row", "spot", "_", "far"]
theorem sc_part_from : FnScope N_part_from ["known", "place"] (defScope s_part_from) := ⟨rfl, rfl, rfl, by decide +kernel, rfl, by decide +kernel, by decide +kernel⟩
theorem bd_part_from : BindH "part_from" s_part_from ["known", "place"] := fun _ _ _ _ _ _ us hl => match us, hl with | [_, _], _ => rfl
abbrev N_parts_in : List Str := ["web", "lot", "known", "seen", "found", "place", "part", "own"]
theorem sc_parts_in : FnScope N_parts_in ["web", "lot"] (defScope s_parts_in) := ⟨rfl, rfl, rfl, by decide +kernel, rfl, by decide +kernel, by decide +kernel⟩
theorem bd_parts_in : BindH "parts_in" s_parts_in ["web", "lot"] := fun _ _ _ _ _ _ us hl => match us, hl with | [_, _], _ => rfl
abbrev N_guests_in : List Str := ["web", "lot", "part", "guest"]
theorem sc_guests_in : FnScope N_guests_in ["web", "lot", "part"] (defScope s_guests_in) := ⟨rfl, rfl, rfl, by decide +kernel, rfl, by decide +kernel, by decide +kernel⟩
theorem bd_guests_in : BindH "guests_in" s_guests_in ["web", "lot", "part"] := fun _ _ _ _ _ _ us hl => match us, hl with | [_, _, _], _ => rfl
abbrev N_way_from : List Str := ["known", "place", "goal", "barred", "rows", "seen", "row", "here", "guest", "far"]
theorem sc_way_from : FnScope N_way_from ["known", "place", "goal", "barred"] (defScope s_way_from) := ⟨rfl, rfl, rfl, by decide +kernel, rfl, by decide +kernel, by decide +kernel⟩
theorem bd_way_from : BindH "way_from" s_way_from ["known", "place", "goal", "barred"] := fun _ _ _ _ _ _ us hl => match us, hl with | [_, _, _, _], _ => rfl
abbrev N_round_of : List Str := ["web", "lot", "part", "own", "number", "guest", "ahead", "near", "far", "known"]
theorem sc_round_of : FnScope N_round_of ["web", "lot", "part"] (defScope s_round_of) := ⟨rfl, rfl, rfl, by decide +kernel, rfl, by decide +kernel, by decide +kernel⟩
theorem bd_round_of : BindH "round_of" s_round_of ["web", "lot", "part"] := fun _ _ _ _ _ _ us hl => match us, hl with | [_, _, _], _ => rfl
abbrev N_both_sure : List Str := ["web", "lot", "own"]
theorem sc_both_sure : FnScope N_both_sure ["web", "lot"] (defScope s_both_sure) := ⟨rfl, rfl, rfl, by decide +kernel, rfl, by decide +kernel, by decide +kernel⟩
theorem bd_both_sure : BindH "both_sure" s_both_sure ["web", "lot"] := fun _ _ _ _ _ _ us hl => match us, hl with | [_, _], _ => rfl
abbrev N_met_by : List Str := ["web", "lot", "found", "guest"]
theorem sc_met_by : FnScope N_met_by ["web", "lot"] (defScope s_met_by) := ⟨rfl, rfl, rfl, by decide +kernel, rfl, by decide +kernel, by decide +kernel⟩
theorem bd_met_by : BindH "met_by" s_met_by ["web", "lot"] := fun _ _ _ _ _ _ us hl => match us, hl with | [_, _], _ => rfl
abbrev N_spare_in : List Str := ["web", "lot", "met", "place"]
theorem sc_spare_in : FnScope N_spare_in ["web", "lot"] (defScope s_spare_in) := ⟨rfl, rfl, rfl, by decide +kernel, rfl, by decide +kernel, by decide +kernel⟩
theorem bd_spare_in : BindH "spare_in" s_spare_in ["web", "lot"] := fun _ _ _ _ _ _ us hl => match us, hl with | [_, _], _ => rfl
abbrev N_is_tree_in : List Str := ["web", "others", "part"]
theorem sc_is_tree_in : FnScope N_is_tree_in ["web", "others", "part"] (defScope s_is_tree_in) := ⟨rfl, rfl, rfl, by decide +kernel, rfl, by decide +kernel, by decide +kernel⟩
theorem bd_is_tree_in : BindH "is_tree_in" s_is_tree_in ["web", "others", "part"] := fun _ _ _ _ _ _ us hl => match us, hl with | [_, _, _], _ => rfl
abbrev N_is_bad : List Str := ["web", "others", "spare", "part", "place"]
theorem sc_is_bad : FnScope N_is_bad ["web", "others", "spare", "part"] (defScope s_is_bad) := ⟨rfl, rfl, rfl, by decide +kernel, rfl, by decide +kernel, by decide +kernel⟩
theorem bd_is_bad : BindH "is_bad" s_is_bad ["web", "others", "spare", "part"] := fun _ _ _ _ _ _ us hl => match us, hl with | [_, _, _, _], _ => rfl
abbrev N_bad_in : List Str := ["web", "lot", "others", "spare", "part"]
theorem sc_bad_in : FnScope N_bad_in ["web", "lot"] (defScope s_bad_in) := ⟨rfl, rfl, rfl, by decide +kernel, rfl, by decide +kernel, by decide +kernel⟩
theorem bd_bad_in : BindH "bad_in" s_bad_in ["web", "lot"] := fun _ _ _ _ _ _ us hl => match us, hl with | [_, _], _ => rfl
abbrev N_can_be_without : List Str := ["web", "lot", "own", "told"]
theorem sc_can_be_without : FnScope N_can_be_without ["web", "lot"] (defScope s_can_be_without) := ⟨rfl, rfl, rfl, by decide +kernel, rfl, by decide +kernel, by decide +kernel⟩
theorem bd_can_be_without : BindH "can_be_without" s_can_be_without ["web", "lot"] := fun _ _ _ _ _ _ us hl => match us, hl with | [_, _], _ => rfl
abbrev N_next_to : List Str := ["web", "guests", "known", "guest"]
theorem sc_next_to : FnScope N_next_to ["web", "guests", "known"] (defScope s_next_to) := ⟨rfl, rfl, rfl, by decide +kernel, rfl, by decide +kernel, by decide +kernel⟩
theorem bd_next_to : BindH "next_to" s_next_to ["web", "guests", "known"] := fun _ _ _ _ _ _ us hl => match us, hl with | [_, _, _], _ => rfl
abbrev N_grown_from : List Str := ["web", "guests", "first", "known", "found", "left", "place", "goods", "guest", "own"]
theorem sc_grown_from : FnScope N_grown_from ["web", "guests", "first"] (defScope s_grown_from) := ⟨rfl, rfl, rfl, by decide +kernel, rfl, by decide +kernel, by decide +kernel⟩
theorem bd_grown_from : BindH "grown_from" s_grown_from ["web", "guests", "first"] := fun _ _ _ _ _ _ us hl => match us, hl with | [_, _, _], _ => rfl
abbrev N_seated_round : List Str := ["web", "way", "first", "place", "guest", "_"]
theorem sc_seated_round : FnScope N_seated_round ["web", "way"] (defScope s_seated_round) := ⟨rfl, rfl, rfl, by decide +kernel, rfl, by decide +kernel, by decide +kernel⟩
theorem bd_seated_round : BindH "seated_round" s_seated_round ["web", "way"] := fun _ _ _ _ _ _ us hl => match us, hl with | [_, _], _ => rfl
abbrev N_kept_in : List Str := ["web", "others", "part", "frees", "guests", "place", "way", "found", "rest", "guest", "_"]
theorem sc_kept_in : FnScope N_kept_in ["web", "others", "part", "frees"] (defScope s_kept_in) := ⟨rfl, rfl, rfl, by decide +kernel, rfl, by decide +kernel, by decide +kernel⟩
theorem bd_kept_in : BindH "kept_in" s_kept_in ["web", "others", "part", "frees"] := fun _ _ _ _ _ _ us hl => match us, hl with | [_, _, _, _], _ => rfl
abbrev N_order_by : List Str := ["web", "lot", "frees", "others", "found", "part"]
theorem sc_order_by : FnScope N_order_by ["web", "lot", "frees"] (defScope s_order_by) := ⟨rfl, rfl, rfl, by decide +kernel, rfl, by decide +kernel, by decide +kernel⟩
theorem bd_order_by : BindH "order_by" s_order_by ["web", "lot", "frees"] := fun _ _ _ _ _ _ us hl => match us, hl with | [_, _, _], _ => rfl
abbrev N_trees_of : List Str := ["web", "others", "part"]
theorem sc_trees_of : FnScope N_trees_of ["web", "others"] (defScope s_trees_of) := ⟨rfl, rfl, rfl, by decide +kernel, rfl, by decide +kernel, by decide +kernel⟩
theorem bd_trees_of : BindH "trees_of" s_trees_of ["web", "others"] := fun _ _ _ _ _ _ us hl => match us, hl with | [_, _], _ => rfl
abbrev N_order_in_lot : List Str := ["web", "lot", "spare", "frees", "place", "part"]
theorem sc_order_in_lot : FnScope N_order_in_lot ["web", "lot"] (defScope s_order_in_lot) := ⟨rfl, rfl, rfl, by decide +kernel, rfl, by decide +kernel, by decide +kernel⟩
theorem bd_order_in_lot : BindH "order_in_lot" s_order_in_lot ["web", "lot"] := fun _ _ _ _ _ _ us hl => match us, hl with | [_, _], _ => rfl
abbrev N_sure_free : List Str := ["web", "lot"]
theorem sc_sure_free : FnScope N_sure_free ["web", "lot"] (defScope s_sure_free) := ⟨rfl, rfl, rfl, by decide +kernel, rfl, by decide +kernel, by decide +kernel⟩
theorem bd_sure_free : BindH "sure_free" s_sure_free ["web", "lot"] := fun _ _ _ _ _ _ us hl => match us, hl with | [_, _], _ => rfl
abbrev N_order_for : List Str := ["web", "lot", "own", "told"]
theorem sc_order_for : FnScope N_order_for ["web", "lot"] (defScope s_order_for) := ⟨rfl, rfl, rfl, by decide +kernel, rfl, by decide +kernel, by decide +kernel⟩
theorem bd_order_for : BindH "order_for" s_order_for ["web", "lot"] := fun _ _ _ _ _ _ us hl => match us, hl with | [_, _], _ => rfl
abbrev N_why_not : List Str := ["web", "lot", "own", "told", "found"]
theorem sc_why_not : FnScope N_why_not ["web", "lot"] (defScope s_why_not) := ⟨rfl, rfl, rfl, by decide +kernel, rfl, by decide +kernel, by decide +kernel⟩
theorem bd_why_not : BindH "why_not" s_why_not ["web", "lot"] := fun _ _ _ _ _ _ us hl => match us, hl with | [_, _], _ => rfl
abbrev N_spare_places : List Str := ["web", "lot", "own", "told", "spare", "found", "part", "place"]
theorem sc_spare_places : FnScope N_spare_places ["web", "lot"] (defScope s_spare_places) := ⟨rfl, rfl, rfl, by decide +kernel, rfl, by decide +kernel, by decide +kernel⟩
theorem bd_spare_places : BindH "spare_places" s_spare_places ["web", "lot"] := fun _ _ _ _ _ _ us hl => match us, hl with | [_, _], _ => rfl
abbrev N_how_many_free : List Str := ["web", "lot", "own", "told"]
theorem sc_how_many_free : FnScope N_how_many_free ["web", "lot"] (defScope s_how_many_free) := ⟨rfl, rfl, rfl, by decide +kernel, rfl, by decide +kernel, by decide +kernel⟩
theorem bd_how_many_free : BindH "how_many_free" s_how_many_free ["web", "lot"] := fun _ _ _ _ _ _ us hl => match us, hl with | [_, _], _ => rfl
abbrev N_sure_places : List Str := ["web", "places", "own", "place"]
theorem sc_sure_places : FnScope N_sure_places ["web", "places"] (defScope s_sure_places) := ⟨rfl, rfl, rfl, by decide +kernel, rfl, by decide +kernel, by decide +kernel⟩
theorem bd_sure_places : BindH "sure_places" s_sure_places ["web", "places"] := fun _ _ _ _ _ _ us hl => match us, hl with | [_, _], _ => rfl
abbrev N_order_leaving : List Str := ["web", "lot", "places", "own", "told", "frees", "spare", "trees", "place", "part"]
theorem sc_order_leaving : FnScope N_order_leaving ["web", "lot", "places"] (defScope s_order_leaving) := ⟨rfl, rfl, rfl, by decide +kernel, rfl, by decide +kernel, by decide +kernel⟩
theorem bd_order_leaving : BindH "order_leaving" s_order_leaving ["web", "lot", "places"] := fun _ _ _ _ _ _ us hl => match us, hl with | [_, _, _], _ => rfl
abbrev N_barring_in : List Str := ["web", "lot", "others", "spare", "met", "found", "part", "place"]
theorem sc_barring_in : FnScope N_barring_in ["web", "lot"] (defScope s_barring_in) := ⟨rfl, rfl, rfl, by decide +kernel, rfl, by decide +kernel, by decide +kernel⟩
theorem bd_barring_in : BindH "barring_in" s_barring_in ["web", "lot"] := fun _ _ _ _ _ _ us hl => match us, hl with | [_, _], _ => rfl
abbrev N_can_together : List Str := ["web", "lot", "own", "told"]
theorem sc_can_together : FnScope N_can_together ["web", "lot"] (defScope s_can_together) := ⟨rfl, rfl, rfl, by decide +kernel, rfl, by decide +kernel, by decide +kernel⟩
theorem bd_can_together : BindH "can_together" s_can_together ["web", "lot"] := fun _ _ _ _ _ _ us hl => match us, hl with | [_, _], _ => rfl
abbrev N_is_never : List Str := ["web", "guest"]
theorem sc_is_never : FnScope N_is_never ["web", "guest"] (defScope s_is_never) := ⟨rfl, rfl, rfl, by decide +kernel, rfl, by decide +kernel, by decide +kernel⟩
theorem bd_is_never : BindH "is_never" s_is_never ["web", "guest"] := fun _ _ _ _ _ _ us hl => match us, hl with | [_, _], _ => rfl
abbrev N_never_without : List Str := ["web", "own", "guest"]
theorem sc_never_without : FnScope N_never_without ["web"] (defScope s_never_without) := ⟨rfl, rfl, rfl, by decide +kernel, rfl, by decide +kernel, by decide +kernel⟩
theorem bd_never_without : BindH "never_without" s_never_without ["web"] := fun _ _ _ _ _ _ us hl => match us, hl with | [_], _ => rfl
abbrev N_rivals : List Str := ["web", "guest", "own", "told", "found", "other"]
theorem sc_rivals : FnScope N_rivals ["web", "guest"] (defScope s_rivals) := ⟨rfl, rfl, rfl, by decide +kernel, rfl, by decide +kernel, by decide +kernel⟩
theorem bd_rivals : BindH "rivals" s_rivals ["web", "guest"] := fun _ _ _ _ _ _ us hl => match us, hl with | [_, _], _ => rfl
abbrev N_lot_grown : List Str := ["web", "lot", "others", "found", "part", "guests", "kept", "guest"]
theorem sc_lot_grown : FnScope N_lot_grown ["web", "lot"] (defScope s_lot_grown) := ⟨rfl, rfl, rfl, by decide +kernel, rfl, by decide +kernel, by decide +kernel⟩
theorem bd_lot_grown : BindH "lot_grown" s_lot_grown ["web", "lot"] := fun _ _ _ _ _ _ us hl => match us, hl with | [_, _], _ => rfl
abbrev N_lot_sure : List Str := ["web", "lot", "own", "told"]
theorem sc_lot_sure : FnScope N_lot_sure ["web", "lot"] (defScope s_lot_sure) := ⟨rfl, rfl, rfl, by decide +kernel, rfl, by decide +kernel, by decide +kernel⟩
theorem bd_lot_sure : BindH "lot_sure" s_lot_sure ["web", "lot"] := fun _ _ _ _ _ _ us hl => match us, hl with | [_, _], _ => rfl
abbrev N_lot_with : List Str := ["web", "lot"]
theorem sc_lot_with : FnScope N_lot_with ["web", "lot"] (defScope s_lot_with) := ⟨rfl, rfl, rfl, by decide +kernel, rfl, by decide +kernel, by decide +kernel⟩
theorem bd_lot_with : BindH "lot_with" s_lot_with ["web", "lot"] := fun _ _ _ _ _ _ us hl => match us, hl with | [_, _], _ => rfl
abbrev N_order_with : List Str := ["web", "lot", "own", "grown"]
theorem sc_order_with : FnScope N_order_with ["web", "lot"] (defScope s_order_with) := ⟨rfl, rfl, rfl, by decide +kernel, rfl, by decide +kernel, by decide +kernel⟩
theorem bd_order_with : BindH "order_with" s_order_with ["web", "lot"] := fun _ _ _ _ _ _ us hl => match us, hl with | [_, _], _ => rfl
abbrev N_why_never : List Str := ["web", "lot", "own", "told", "found"]
theorem sc_why_never : FnScope N_why_never ["web", "lot"] (defScope s_why_never) := ⟨rfl, rfl, rfl, by decide +kernel, rfl, by decide +kernel, by decide +kernel⟩
theorem bd_why_never : BindH "why_never" s_why_never ["web", "lot"] := fun _ _ _ _ _ _ us hl => match us, hl with | [_, _], _ => rfl
abbrev N__law_box : List Str := ["_law_script", "_law_k", "_law_bit_so"]
theorem sc__law_box : FnScope N__law_box ["_law_script", "_law_k"] (defScope s__law_box) := ⟨rfl, rfl, rfl, by decide +kernel, rfl, by decide +kernel, by decide +kernel⟩
theorem bd__law_box : BindH "_law_box" s__law_box ["_law_script", "_law_k"] := fun _ _ _ _ _ _ us hl => match us, hl with | [_, _], _ => rfl
abbrev N__law_take : List Str := ["_law_tin", "_law_below_so", "_law_drawn", "_law_once_so", "_law_wide_so", "_law_twice_so"]
theorem sc__law_take : FnScope N__law_take ["_law_tin", "_law_below_so"] (defScope s__law_take) := ⟨rfl, rfl, rfl, by decide +kernel, rfl, by decide +kernel, by decide +kernel⟩
theorem bd__law_take : BindH "_law_take" s__law_take ["_law_tin", "_law_below_so"] := fun _ _ _ _ _ _ us hl => match us, hl with | [_, _], _ => rfl
abbrev N__law_cells : List Str := ["_law_script", "_law_most_so", "_law_cells_so", "_law_k", "_law_bit_so", "_law_at_so"]
theorem sc__law_cells : FnScope N__law_cells ["_law_script", "_law_most_so"] (defScope s__law_cells) := ⟨rfl, rfl, rfl, by decide +kernel, rfl, by decide +kernel, by decide +kernel⟩
theorem bd__law_cells : BindH "_law_cells" s__law_cells ["_law_script", "_law_most_so"] := fun _ _ _ _ _ _ us hl => match us, hl with | [_, _], _ => rfl
abbrev N__law_of : List Str := ["_law_tin", "_law_goods_so"]
theorem sc__law_of : FnScope N__law_of ["_law_tin", "_law_goods_so"] (defScope s__law_of) := ⟨rfl, rfl, rfl, by decide +kernel, rfl, by decide +kernel, by decide +kernel⟩
theorem bd__law_of : BindH "_law_of" s__law_of ["_law_tin", "_law_goods_so"] := fun _ _ _ _ _ _ us hl => match us, hl with | [_, _], _ => rfl
abbrev N__law_pick : List Str := ["_law_tin", "_law_goods_so", "_law_count_so", "_law_pool_so", "_law_found", "_law_lap"]
theorem sc__law_pick : FnScope N__law_pick ["_law_tin", "_law_goods_so", "_law_count_so"] (defScope s__law_pick) := ⟨rfl, rfl, rfl, by decide +kernel, rfl, by decide +kernel, by decide +kernel⟩
theorem bd__law_pick : BindH "_law_pick" s__law_pick ["_law_tin", "_law_goods_so", "_law_count_so"] := fun _ _ _ _ _ _ us hl => match us, hl with | [_, _, _], _ => rfl
abbrev N__law_lists : List Str := ["_law_matter", "_law_bit"]
theorem sc__law_lists : FnScope N__law_lists ["_law_matter"] (defScope s__law_lists) := ⟨rfl, rfl, rfl, by decide +kernel, rfl, by decide +kernel, by decide +kernel⟩
theorem bd__law_lists : BindH "_law_lists" s__law_lists ["_law_matter"] := fun _ _ _ _ _ _ us hl => match us, hl with | [_], _ => rfl
abbrev N__law_same : List Str := ["_law_got", "_law_due", "_law_mine", "_law_its"]
theorem sc__law_same : FnScope N__law_same ["_law_got", "_law_due"] (defScope s__law_same) := ⟨rfl, rfl, rfl, by decide +kernel, rfl, by decide +kernel, by decide +kernel⟩
theorem bd__law_same : BindH "_law_same" s__law_same ["_law_got", "_law_due"] := fun _ _ _ _ _ _ us hl => match us, hl with | [_, _], _ => rfl
abbrev N__law_unwanted : List Str := ["_law_net", "_law_wanted_so", "_law_own"]
theorem sc__law_unwanted : FnScope N__law_unwanted ["_law_net"] (defScope s__law_unwanted) := ⟨rfl, rfl, rfl, by decide +kernel, rfl, by decide +kernel, by decide +kernel⟩
theorem bd__law_unwanted : BindH "_law_unwanted" s__law_unwanted ["_law_net"] := fun _ _ _ _ _ _ us hl => match us, hl with | [_], _ => rfl
abbrev N__law_seat : List Str := ["_law_net", "_law_taken_so", "_law_k", "_law_near_so", "_law_far_so"]
theorem sc__law_seat : FnScope N__law_seat ["_law_net", "_law_taken_so", "_law_k"] (defScope s__law_seat) := ⟨rfl, rfl, rfl, by decide +kernel, rfl, by decide +kernel, by decide +kernel⟩
theorem bd__law_seat : BindH "_law_seat" s__law_seat ["_law_net", "_law_taken_so", "_law_k"] := fun _ _ _ _ _ _ us hl => match us, hl with | [_, _, _], _ => rfl
abbrev N__law_run : List Str := ["_law_net", "_law_walk_here", "_law_seats", "_law_taken_so", "_law_k", "_law_own"]
theorem sc__law_run : FnScope N__law_run ["_law_net", "_law_walk_here"] (defScope s__law_run) := ⟨rfl, rfl, rfl, by decide +kernel, rfl, by decide +kernel, by decide +kernel⟩
theorem bd__law_run : BindH "_law_run" s__law_run ["_law_net", "_law_walk_here"] := fun _ _ _ _ _ _ us hl => match us, hl with | [_, _], _ => rfl
abbrev N__law_lacking : List Str := ["_law_seats", "_law_k", "_law_own"]
theorem sc__law_lacking : FnScope N__law_lacking ["_law_seats"] (defScope s__law_lacking) := ⟨rfl, rfl, rfl, by decide +kernel, rfl, by decide +kernel, by decide +kernel⟩
theorem bd__law_lacking : BindH "_law_lacking" s__law_lacking ["_law_seats"] := fun _ _ _ _ _ _ us hl => match us, hl with | [_], _ => rfl
abbrev N__law_others : List Str := ["_law_net", "_law_heap", "_law_k"]
theorem sc__law_others : FnScope N__law_others ["_law_net", "_law_heap"] (defScope s__law_others) := ⟨rfl, rfl, rfl, by decide +kernel, rfl, by decide +kernel, by decide +kernel⟩
theorem bd__law_others : BindH "_law_others" s__law_others ["_law_net", "_law_heap"] := fun _ _ _ _ _ _ us hl => match us, hl with | [_, _], _ => rfl
abbrev N__law_parts : List Str := ["_law_net", "_law_heap", "_law_marks_so", "_law_k", "_law_one", "_law_two", "_law_own", "_law_kinds_so", "_law_spot"]
theorem sc__law_parts : FnScope N__law_parts ["_law_net", "_law_heap"] (defScope s__law_parts) := ⟨rfl, rfl, rfl, by decide +kernel, rfl, by decide +kernel, by decide +kernel⟩
theorem bd__law_parts : BindH "_law_parts" s__law_parts ["_law_net", "_law_heap"] := fun _ _ _ _ _ _ us hl => match us, hl with | [_, _], _ => rfl
abbrev N__law_in_part : List Str := ["_law_net", "_law_heap", "_law_part_so", "_law_k"]
theorem sc__law_in_part : FnScope N__law_in_part ["_law_net", "_law_heap", "_law_part_so"] (defScope s__law_in_part) := ⟨rfl, rfl, rfl, by decide +kernel, rfl, by decide +kernel, by decide +kernel⟩
theorem bd__law_in_part : BindH "_law_in_part" s__law_in_part ["_law_net", "_law_heap", "_law_part_so"] := fun _ _ _ _ _ _ us hl => match us, hl with | [_, _, _], _ => rfl
abbrev N__law_part_kind : List Str := ["_law_net", "_law_heap", "_law_part_so", "_law_more_so"]
theorem sc__law_part_kind : FnScope N__law_part_kind ["_law_net", "_law_heap", "_law_part_so"] (defScope s__law_part_kind) := ⟨rfl, rfl, rfl, by decide +kernel, rfl, by decide +kernel, by decide +kernel⟩
theorem bd__law_part_kind : BindH "_law_part_kind" s__law_part_kind ["_law_net", "_law_heap", "_law_part_so"] := fun _ _ _ _ _ _ us hl => match us, hl with | [_, _, _], _ => rfl
abbrev N__law_free_in : List Str := ["_law_net", "_law_heap", "_law_part_so", "_law_found", "_law_none_so", "_law_spot", "_law_k"]
theorem sc__law_free_in : FnScope N__law_free_in ["_law_net", "_law_heap", "_law_part_so"] (defScope s__law_free_in) := ⟨rfl, rfl, rfl, by decide +kernel, rfl, by decide +kernel, by decide +kernel⟩
theorem bd__law_free_in : BindH "_law_free_in" s__law_free_in ["_law_net", "_law_heap", "_law_part_so"] := fun _ _ _ _ _ _ us hl => match us, hl with | [_, _, _], _ => rfl
abbrev N__law_bars : List Str := ["_law_net", "_law_heap", "_law_rest_so", "_law_found", "_law_part_so", "_law_kind_so"]
theorem sc__law_bars : FnScope N__law_bars ["_law_net", "_law_heap"] (defScope s__law_bars) := ⟨rfl, rfl, rfl, by decide +kernel, rfl, by decide +kernel, by decide +kernel⟩
theorem bd__law_bars : BindH "_law_bars" s__law_bars ["_law_net", "_law_heap"] := fun _ _ _ _ _ _ us hl => match us, hl with | [_, _], _ => rfl
abbrev N__law_walk : List Str := ["_law_tin", "_law_many_so"]
theorem sc__law_walk : FnScope N__law_walk ["_law_tin", "_law_many_so"] (defScope s__law_walk) := ⟨rfl, rfl, rfl, by decide +kernel, rfl, by decide +kernel, by decide +kernel⟩
theorem bd__law_walk : BindH "_law_walk" s__law_walk ["_law_tin", "_law_many_so"] := fun _ _ _ _ _ _ us hl => match us, hl with | [_, _], _ => rfl
abbrev N__law_are_within : List Str := ["_law_heap", "_law_wide_so", "_law_own"]
theorem sc__law_are_within : FnScope N__law_are_within ["_law_heap", "_law_wide_so"] (defScope s__law_are_within) := ⟨rfl, rfl, rfl, by decide +kernel, rfl, by decide +kernel, by decide +kernel⟩
theorem bd__law_are_within : BindH "_law_are_within" s__law_are_within ["_law_heap", "_law_wide_so"] := fun _ _ _ _ _ _ us hl => match us, hl with | [_, _], _ => rfl
abbrev N__law_is_walk : List Str := ["_law_net", "_law_matter", "_law_own"]
theorem sc__law_is_walk : FnScope N__law_is_walk ["_law_net", "_law_matter"] (defScope s__law_is_walk) := ⟨rfl, rfl, rfl, by decide +kernel, rfl, by decide +kernel, by decide +kernel⟩
theorem bd__law_is_walk : BindH "_law_is_walk" s__law_is_walk ["_law_net", "_law_matter"] := fun _ _ _ _ _ _ us hl => match us, hl with | [_, _], _ => rfl
abbrev N__law_just : List Str := ["_law_net", "_law_heap", "_law_matter"]
theorem sc__law_just : FnScope N__law_just ["_law_net", "_law_heap", "_law_matter"] (defScope s__law_just) := ⟨rfl, rfl, rfl, by decide +kernel, rfl, by decide +kernel, by decide +kernel⟩
theorem bd__law_just : BindH "_law_just" s__law_just ["_law_net", "_law_heap", "_law_matter"] := fun _ _ _ _ _ _ us hl => match us, hl with | [_, _, _], _ => rfl
abbrev N__law_all_of : List Str := ["_law_net", "_law_heap", "_law_matter"]
theorem sc__law_all_of : FnScope N__law_all_of ["_law_net", "_law_heap", "_law_matter"] (defScope s__law_all_of) := ⟨rfl, rfl, rfl, by decide +kernel, rfl, by decide +kernel, by decide +kernel⟩
theorem bd__law_all_of : BindH "_law_all_of" s__law_all_of ["_law_net", "_law_heap", "_law_matter"] := fun _ _ _ _ _ _ us hl => match us, hl with | [_, _, _], _ => rfl
abbrev N__law_barred_by : List Str := ["_law_net", "_law_heap", "_law_rest_so", "_law_found", "_law_part_so", "_law_ends_so", "_law_k"]
theorem sc__law_barred_by : FnScope N__law_barred_by ["_law_net", "_law_heap"] (defScope s__law_barred_by) := ⟨rfl, rfl, rfl, by decide +kernel, rfl, by decide +kernel, by decide +kernel⟩
theorem bd__law_barred_by : BindH "_law_barred_by" s__law_barred_by ["_law_net", "_law_heap"] := fun _ _ _ _ _ _ us hl => match us, hl with | [_, _], _ => rfl
abbrev N__law_one_of : List Str := ["_law_matter", "_law_rows_so", "_law_own"]
theorem sc__law_one_of : FnScope N__law_one_of ["_law_matter", "_law_rows_so"] (defScope s__law_one_of) := ⟨rfl, rfl, rfl, by decide +kernel, rfl, by decide +kernel, by decide +kernel⟩
theorem bd__law_one_of : BindH "_law_one_of" s__law_one_of ["_law_matter", "_law_rows_so"] := fun _ _ _ _ _ _ us hl => match us, hl with | [_, _], _ => rfl
abbrev N__law_great_net : List Str := ["_law_tin", "_law_many_so", "_law_found", "_law_lap", "_law_one", "_law_two"]
theorem sc__law_great_net : FnScope N__law_great_net ["_law_tin"] (defScope s__law_great_net) := ⟨rfl, rfl, rfl, by decide +kernel, rfl, by decide +kernel, by decide +kernel⟩
theorem bd__law_great_net : BindH "_law_great_net" s__law_great_net ["_law_tin"] := fun _ _ _ _ _ _ us hl => match us, hl with | [_], _ => rfl
abbrev N__law_is_heap : List Str := ["_law_many_so", "_law_matter", "_law_own"]
theorem sc__law_is_heap : FnScope N__law_is_heap ["_law_many_so", "_law_matter"] (defScope s__law_is_heap) := ⟨rfl, rfl, rfl, by decide +kernel, rfl, by decide +kernel, by decide +kernel⟩
theorem bd__law_is_heap : BindH "_law_is_heap" s__law_is_heap ["_law_many_so", "_law_matter"] := fun _ _ _ _ _ _ us hl => match us, hl with | [_, _], _ => rfl
abbrev N__law_heard : List Str := ["_law_door", "_law_net", "_law_heap", "_law_found", "error_a"]
theorem sc__law_heard : FnScope N__law_heard ["_law_door", "_law_net", "_law_heap"] (defScope s__law_heard) := ⟨rfl, rfl, rfl, by decide +kernel, rfl, by decide +kernel, by decide +kernel⟩
theorem bd__law_heard : BindH "_law_heard" s__law_heard ["_law_door", "_law_net", "_law_heap"] := fun _ _ _ _ _ _ us hl => match us, hl with | [_, _, _], _ => rfl
abbrev N__law_by_hand_right : List Str := ["_law_line_so", "_law_k", "_law_got", "_law_due", "_law_table_so", "_law_mid_so", "_law_walk_here", "_law_spot"]
theorem sc__law_by_hand_right : FnScope N__law_by_hand_right [] (defScope s__law_by_hand_right) := ⟨rfl, rfl, rfl, by decide +kernel, rfl, by decide +kernel, by decide +kernel⟩
theorem bd__law_by_hand_right : BindH "_law_by_hand_right" s__law_by_hand_right [] := fun _ _ _ _ _ _ us hl => match us, hl with | [], _ => rfl
abbrev N__law_papers_right : List Str := ["_law_net", "_law_heap", "_law_bars_so", "_law_stuck_so", "_law_got", "_law_told", "_law_door", "_law_fits_so", "_law_own", "_law_its"]
theorem sc__law_papers_right : FnScope N__law_papers_right ["_law_net", "_law_heap"] (defScope s__law_papers_right) := ⟨rfl, rfl, rfl, by decide +kernel, rfl, by decide +kernel, by decide +kernel⟩
theorem bd__law_papers_right : BindH "_law_papers_right" s__law_papers_right ["_law_net", "_law_heap"] := fun _ _ _ _ _ _ us hl => match us, hl with | [_, _], _ => rfl
abbrev N__law_right : List Str := ["_law_tin", "_law_net", "_law_walk_here", "_law_seats", "_law_heap", "_law_free_so", "_law_spot", "_law_spare_so", "_law_rest_so", "_law_due", "_law_own", "_law_k", "_law_turned_so", "_law_fewer_so", "_law_wide_so"]
theorem sc__law_right : FnScope N__law_right ["_law_tin"] (defScope s__law_right) := ⟨rfl, rfl, rfl, by decide +kernel, rfl, by decide +kernel, by decide +kernel⟩
theorem bd__law_right : BindH "_law_right" s__law_right ["_law_tin"] := fun _ _ _ _ _ _ us hl => match us, hl with | [_], _ => rfl
abbrev N__law_never_right : List Str := ["_law_turn", "_law_k", "_law_mid_so"]
theorem sc__law_never_right : FnScope N__law_never_right ["_law_turn"] (defScope s__law_never_right) := ⟨rfl, rfl, rfl, by decide +kernel, rfl, by decide +kernel, by decide +kernel⟩
theorem bd__law_never_right : BindH "_law_never_right" s__law_never_right ["_law_turn"] := fun _ _ _ _ _ _ us hl => match us, hl with | [_], _ => rfl
abbrev N_law : List Str := ["_law_script", "_law_tin", "_law_turn"]
theorem sc_law : FnScope N_law ["_law_script"] (defScope s_law) := ⟨rfl, rfl, rfl, by decide +kernel, rfl, by decide +kernel, by decide +kernel⟩
theorem bd_law : BindH "law" s_law ["_law_script"] := fun _ _ _ _ _ _ us hl => match us, hl with | [_], _ => rfl
end K17
end

section
set_option maxRecDepth 100000
set_option maxHeartbeats 4000000
/-! Encodings and short rules. -/
namespace K17
open PySem PySem.Spec PyProof.Rows L2 DL MN
abbrev encP (p : Nat × Nat) : D := .tup [nD p.1, nD p.2]
abbrev encGs (gs : List (Nat × Nat)) : D := .tup (gs.map encP)
abbrev encW (w : Web) : D := .tup [nD w.many, encGs w.gs]
theorem at_gs {w : Web} {g : Nat} (h : g < w.gs.length) : atI (w.gs.map encP) (g : Int) = some (encP (w.g g)) := by
  refine atI_nat ?_
  rw [List.getElem?_map, List.getElem?_eq_getElem h]
  simp [Web.g, List.getD_eq_getElem?_getD, List.getElem?_eq_getElem h]
theorem hu_of {k : Nat} {A : Around} (hr : Room k A) : A.units + 1 < cLine := by have := hr.units; omega
section
variable {K : PySem.W.Frag} {ρ ρ1 ρ2 : En} {ta tb : TE} {ds : List D} {d : D} {i : Int} {w : Web} {n : Nat}
theorem ev_ixT (ha : EvD ta ρ ρ1 (.va (.tup ds))) (hb : EvD tb ρ1 ρ2 (.va (.int i))) (h : atI ds i = some d) : EvD (tOp (rIxT K) ta tb) ρ ρ2 (.va d) := ev_op ha hb (opv_ixT h)
theorem ev_ixL (ha : EvD ta ρ ρ1 (.va (.lst ds))) (hb : EvD tb ρ1 ρ2 (.va (.int i))) (h : atI ds i = some d) : EvD (tOp (rIxL K) ta tb) ρ ρ2 (.va d) := ev_op ha hb (opv_ixL h)
/-- web[0], web[1], web[1][g], web[1][g][0], web[1][g][1] -/
theorem ev_w0 (h : ρ[n]? = some (.va (encW w))) : EvD (tOp (rIxT K) (tVar n) (tC (.int 0))) ρ ρ (.va (nD w.many)) := ev_ixT (ev_var h) (ev_c fun _ => .int _) rfl
theorem ev_w1 (h : ρ[n]? = some (.va (encW w))) : EvD (tOp (rIxT K) (tVar n) (tC (.int 1))) ρ ρ (.va (encGs w.gs)) := ev_ixT (ev_var h) (ev_c fun _ => .int _) rfl
theorem ev_wg {g : Nat} (h : ρ[n]? = some (.va (encW w))) (hb : EvD tb ρ ρ1 (.va (nD g))) (hg : g < w.gs.length) : EvD (tOp (rIxT K) (tOp (rIxT K) (tVar n) (tC (.int 1))) tb) ρ ρ1 (.va (encP (w.g g))) := ev_ixT (ev_w1 h) hb (at_gs hg)
theorem ev_wg0 {g : Nat} (h : ρ[n]? = some (.va (encW w))) (hb : EvD tb ρ ρ1 (.va (nD g))) (hg : g < w.gs.length) : EvD (tOp (rIxT K) (tOp (rIxT K) (tOp (rIxT K) (tVar n) (tC (.int 1))) tb) (tC (.int 0))) ρ ρ1 (.va (nD (w.g g).1)) := ev_ixT (ev_wg h hb hg) (ev_c fun _ => .int _) rfl
theorem ev_wg1 {g : Nat} (h : ρ[n]? = some (.va (encW w))) (hb : EvD tb ρ ρ1 (.va (nD g))) (hg : g < w.gs.length) : EvD (tOp (rIxT K) (tOp (rIxT K) (tOp (rIxT K) (tVar n) (tC (.int 1))) tb) (tC (.int 1))) ρ ρ1 (.va (nD (w.g g).2)) := ev_ixT (ev_wg h hb hg) (ev_c fun _ => .int _) rfl
/-- len of it -/
theorem ev_lenT (h : EvD ta ρ ρ1 (.va (.tup ds))) : EvD (tCB (DL.rLen K) (tCons ta tNil)) ρ ρ1 (.va (nD ds.length)) := ev_call (xs := [_]) (ea_cons h ea_nil) cv_lenT
theorem ev_lenL (h : EvD ta ρ ρ1 (.va (.lst ds))) : EvD (tCB (DL.rLen K) (tCons ta tNil)) ρ ρ1 (.va (nD ds.length)) := ev_call (xs := [_]) (ea_cons h ea_nil) cv_lenL
theorem ev_lenG (h : ρ[n]? = some (.va (encW w))) : EvD (tCB (DL.rLen K) (tCons (tOp (rIxT K) (tVar n) (tC (.int 1))) tNil)) ρ ρ (.va (nD w.gs.length)) := by
  have z := ev_lenT (K := K) (ev_w1 (K := K) h)
  rw [List.length_map] at z
  exact z
/-- tuple(list), tuple(tuple) -/
theorem ev_tupL (h : EvD ta ρ ρ1 (.ow (.lst ds))) : EvD (tCB (rTupOf K) (tCons ta tNil)) ρ ρ1 (.va (.tup ds)) := ev_call (xs := [_]) (ea_cons h.fz ea_nil) cv_tupleL
theorem ev_tupLv (h : EvD ta ρ ρ1 (.va (.lst ds))) : EvD (tCB (rTupOf K) (tCons ta tNil)) ρ ρ1 (.va (.tup ds)) := ev_call (xs := [_]) (ea_cons h ea_nil) cv_tupleL
theorem ev_lstT (h : EvD ta ρ ρ1 (.va (.tup ds))) : EvD (tCB (rLstOf K) (tCons ta tNil)) ρ ρ1 (.ow (.lst ds)) := ev_callO (xs := [_]) (ea_cons h ea_nil) co_listT
theorem ev_lstL (h : EvD ta ρ ρ1 (.va (.lst ds))) : EvD (tCB (rLstOf K) (tCons ta tNil)) ρ ρ1 (.ow (.lst ds)) := ev_callO (xs := [_]) (ea_cons h ea_nil) co_listL
theorem ev_all {α : Type} {xs : List α} {g : α → Bool} (h : EvD ta ρ ρ1 (.ow (.lst (xs.map fun x => .bl (g x))))) : EvD (tCB (rAll K) (tCons ta tNil)) ρ ρ1 (.va (.bl (xs.all g))) := ev_call (xs := [_]) (ea_cons h.fz ea_nil) cv_allM
theorem ev_any {α : Type} {xs : List α} {g : α → Bool} (h : EvD ta ρ ρ1 (.ow (.lst (xs.map fun x => .bl (g x))))) : EvD (tCB (rAny K) (tCons ta tNil)) ρ ρ1 (.va (.bl (xs.any g))) := ev_call (xs := [_]) (ea_cons h.fz ea_nil) cv_anyM
theorem ev_isi {t2 : TE} {x : D} {m : String} {b : Bool} (h : EvD ta ρ ρ1 (.va x)) (h2 : EvD t2 ρ1 ρ2 (.va (.ty m))) (hx : hasTy x = true) (hb : kitB (tyN x) m = some b) : EvD (tCB (rIsi K) (tCons ta (tCons t2 tNil))) ρ ρ2 (.va (.bl b)) := ev_call (xs := [_, _]) (ea_cons h (ea_cons h2 ea_nil)) (cv_isi hx hb)
/-- a comprehension's list without a test -/
theorem ev_lcM {α : Type} {te : TE} {g : TG} {wi : TI} {vs js : List Nat} (xs : List α) (enc : α → D) (f : α → D) (ρx : α → En) (hi : EvI wi ρ ρ1 (xs.map enc)) (hz : xs.length ≤ 100000) (hl : ρ1.length = ρ.length)
    (hg : ∀ x, x ∈ xs → EvG g js (.va (enc x)) (wipeE ρ1 vs) (ρx x)) (he : ∀ x, x ∈ xs → EvD te (ρx x) (ρx x) (.va (f x))) (hw : ∀ x, x ∈ xs → wipeE (ρx x) vs = wipeE ρ1 vs) (hj : ∀ k ∈ js, k ∈ vs) :
    EvD (tLc wi g tYes te vs) ρ (wipeE ρ1 vs) (.ow (.lst (xs.map f))) := by
  have z := ev_lcP (te := te) (tt := tYes) xs enc (fun _ => true) f ρx hi hz hl hg (fun _ _ => et_yes) (fun x hx _ => he x hx) hw hj
  have e : xs.filter (fun _ => true) = xs := List.filter_eq_self.mpr fun _ _ => rfl
  rw [e] at z
  exact z
end
theorem k_int_int : kitB "int" "int" = some true := by decide +kernel
theorem k_int_bool : kitB "int" "bool" = some false := by decide +kernel
theorem k_tuple_tuple : kitB "tuple" "tuple" = some true := by decide +kernel
theorem k_list_list : kitB "list" "list" = some true := by decide +kernel
theorem k_list_tuple : kitB "list" "tuple" = some false := by decide +kernel
theorem k_tuple_list : kitB "tuple" "list" = some false := by decide +kernel
theorem k_int_list : kitB "int" "list" = some false := by decide +kernel
theorem k_int_tuple : kitB "int" "tuple" = some false := by decide +kernel
theorem k_bool_bool : kitB "bool" "bool" = some true := by decide +kernel
theorem k_bool_int : kitB "bool" "int" = some true := by decide +kernel
theorem k_str_str : kitB "str" "str" = some true := by decide +kernel
theorem k_str_bool : kitB "str" "bool" = some false := by decide +kernel
theorem k_str_int : kitB "str" "int" = some false := by decide +kernel
theorem k_bool_str : kitB "bool" "str" = some false := by decide +kernel
theorem k_bool_list : kitB "bool" "list" = some false := by decide +kernel
theorem k_bool_tuple : kitB "bool" "tuple" = some false := by decide +kernel
theorem k_str_list : kitB "str" "list" = some false := by decide +kernel
theorem k_str_tuple : kitB "str" "tuple" = some false := by decide +kernel
theorem k_non_list : kitB "NoneType" "list" = some false := by decide +kernel
theorem k_non_tuple : kitB "NoneType" "tuple" = some false := by decide +kernel
theorem k_non_bool : kitB "NoneType" "bool" = some false := by decide +kernel
theorem k_list_bool : kitB "list" "bool" = some false := by decide +kernel
theorem k_tuple_bool : kitB "tuple" "bool" = some false := by decide +kernel
theorem k_list_int : kitB "list" "int" = some false := by decide +kernel
theorem k_tuple_int : kitB "tuple" "int" = some false := by decide +kernel
theorem k_non_int : kitB "NoneType" "int" = some false := by decide +kernel
theorem k_int_str : kitB "int" "str" = some false := by decide +kernel
theorem k_non_str : kitB "NoneType" "str" = some false := by decide +kernel
/-! ### tuples of tuples -/
mutual
def tupD : D → D
  | .lst ds => .tup (tupDs ds)
  | .tup ds => .tup (tupDs ds)
  | d => d
def tupDs : List D → List D
  | [] => []
  | d :: ds => tupD d :: tupDs ds
end
theorem tupDs_map : ∀ ds : List D, tupDs ds = ds.map tupD
  | [] => by simp [tupDs]
  | d :: ds => by rw [tupDs, tupDs_map ds, List.map_cons]
mutual
def depD : D → Nat
  | .lst ds => depDs ds + 1
  | .tup ds => depDs ds + 1
  | .int _ => 0
  | _ => 100
def depDs : List D → Nat
  | [] => 0
  | d :: ds => max (depD d) (depDs ds)
end
theorem depDs_mem {d : D} : ∀ {ds : List D}, d ∈ ds → depD d ≤ depDs ds
  | [], h => by cases h
  | e :: ds, h => by
    rw [depDs]
    rcases List.mem_cons.mp h with rfl | h
    · omega
    · have := depDs_mem h; omega
mutual
def wid : D → Bool
  | .lst ds => wids ds && decide (ds.length ≤ 1000)
  | .tup ds => wids ds && decide (ds.length ≤ 1000)
  | .int _ => true
  | _ => false
def wids : List D → Bool
  | [] => true
  | d :: ds => wid d && wids ds
end
theorem wids_mem {d : D} : ∀ {ds : List D}, wids ds = true → d ∈ ds → wid d = true
  | [], _, h => by cases h
  | e :: ds, h, m => by
    rw [wids, Bool.and_eq_true] at h
    rcases List.mem_cons.mp m with rfl | m
    · exact h.1
    · exact wids_mem h.2 m

/-! ### loops by folds -/
section
variable {C : Addr} {E : XK} {ρ ρ1 : En} {wi : TI} {g : TG} {t1 : TS} {po : Po}
theorem run_forF {α β : Type} (xs : List α) (enc : α → D) (step : β → α → β) (s0 : β) (R : β → En → Prop) (hi : EvI wi ρ ρ1 (xs.map enc)) (h0 : R s0 ρ1)
    (turn : ∀ s x ρ2, x ∈ xs → R s ρ2 → ∃ js ρ3, EvG g js (.va (enc x)) ρ2 ρ3 ∧ Run C E t1 ρ3 { po with nx := R (step s x), ct := R (step s x), bk := po.nx }) (hd : ∀ ρ2, R (xs.foldl step s0) ρ2 → po.nx ρ2) : Run C E (tFor wi g t1) ρ po := by
  refine run_for hi (fun i ρ2 => R ((xs.take i).foldl step s0) ρ2) h0 (fun i d ρ2 hd' hI => ?_) (fun ρ2 hI => hd ρ2 ?_)
  · rw [List.getElem?_map] at hd'
    cases hx : xs[i]? with
    | none => rw [hx] at hd'; cases hd'
    | some x =>
      rw [hx] at hd'
      cases hd'
      obtain ⟨js, ρ3, h1, h2⟩ := turn _ x ρ2 (List.mem_of_getElem? hx) hI
      refine ⟨js, ρ3, h1, ?_⟩
      have e : (xs.take (i + 1)).foldl step s0 = step ((xs.take i).foldl step s0) x := by
        rw [List.take_add_one, hx, List.foldl_append] <;> rfl
      rw [e]
      exact h2
  · rw [List.length_map, List.take_length] at hI
    exact hI
/-- .. by what was walked -/
theorem run_forP {α : Type} (xs : List α) (enc : α → D) (R : List α → En → Prop) (hi : EvI wi ρ ρ1 (xs.map enc)) (h0 : R [] ρ1)
    (turn : ∀ pre x post ρ2, xs = pre ++ x :: post → R pre ρ2 → ∃ js ρ3, EvG g js (.va (enc x)) ρ2 ρ3 ∧ Run C E t1 ρ3 { po with nx := R (pre ++ [x]), ct := R (pre ++ [x]), bk := po.nx }) (hd : ∀ ρ2, R xs ρ2 → po.nx ρ2) : Run C E (tFor wi g t1) ρ po := by
  refine run_for hi (fun i ρ2 => R (xs.take i) ρ2) h0 (fun i d ρ2 hd' hI => ?_) (fun ρ2 hI => hd ρ2 ?_)
  · rw [List.getElem?_map] at hd'
    cases hx : xs[i]? with
    | none => rw [hx] at hd'; cases hd'
    | some x =>
      rw [hx] at hd'
      cases hd'
      have hlt : i < xs.length := (List.getElem?_eq_some_iff.mp hx).1
      have e0 : xs = xs.take i ++ x :: xs.drop (i + 1) := by
        have e1 : xs[i] = x := (List.getElem?_eq_some_iff.mp hx).2
        rw [← e1, ← List.drop_eq_getElem_cons hlt, List.take_append_drop]
      obtain ⟨js, ρ3, h1, h2⟩ := turn _ x _ ρ2 e0 hI
      refine ⟨js, ρ3, h1, ?_⟩
      have e : xs.take (i + 1) = xs.take i ++ [x] := by rw [List.take_add_one, hx] <;> rfl
      rw [e]
      exact h2
  · rw [List.length_map, List.take_length] at hI
    exact hI
end
theorem mem_put {x a : Nat} {l : List Nat} : x ∈ put l a ↔ x ∈ l ∨ x = a := by
  unfold put
  split
  · rename_i h
    constructor
    · exact .inl
    · rintro (m | rfl)
      · exact m
      · exact h
  · rw [List.mem_append, List.mem_singleton]
theorem mem_puts {x : Nat} : ∀ {m l : List Nat}, x ∈ m.foldl put l ↔ x ∈ l ∨ x ∈ m
  | [], l => by simp
  | a :: m, l => by
    rw [List.foldl_cons, mem_puts, mem_put, List.mem_cons]
    constructor
    · rintro ((h | h) | h)
      · exact .inl h
      · exact .inr (.inl h)
      · exact .inr (.inr h)
    · rintro (h | h | h)
      · exact .inl (.inl h)
      · exact .inl (.inr h)
      · exact .inr h
theorem put_nodup {a : Nat} {l : List Nat} (h : l.Nodup) : (put l a).Nodup := by
  unfold put
  split
  · exact h
  · rename_i n
    rw [List.nodup_append]
    exact ⟨h, by simp, fun x hx y hy => by rw [List.mem_singleton] at hy; subst hy; exact fun e => n (e ▸ hx)⟩
theorem puts_nodup : ∀ {m l : List Nat}, l.Nodup → (m.foldl put l).Nodup
  | [], l, h => h
  | a :: m, l, h => by rw [List.foldl_cons]; exact puts_nodup (put_nodup h)
theorem len_of_lt {n : Nat} {l : List Nat} (h : l.Nodup) (hl : ∀ x ∈ l, x < n) : l.length ≤ n := by
  have z := h.length_le_of_subset (l₂ := List.range n) fun x hx => List.mem_range.mpr (hl x hx)
  rwa [List.length_range] at z
/-! ### who stands beside whom -/
abbrev adjD (w : Web) (lot : List Nat) : D := .dic ((List.range w.many).map fun (n : Nat) => (n : Int)) ((List.range w.many).map fun p => .lst ((adj w lot p).map encP))
theorem dget_range (f : Nat → D) {p : Nat} : ∀ {n a : Nat}, a ≤ p → p < a + n → dgetD ((List.range' a n).map fun (n : Nat) => (n : Int)) ((List.range' a n).map f) (p : Int) = some (f p)
  | 0, a, h1, h2 => by omega
  | n + 1, a, h1, h2 => by
    rw [List.range'_succ, List.map_cons, List.map_cons]
    by_cases e : a = p
    · subst e; simp [dgetD, List.zip_cons_cons, List.find?_cons]
    · have e' : ¬ (a : Int) = (p : Int) := by omega
      have ih := dget_range f (p := p) (n := n) (a := a + 1) (by omega) (by omega)
      unfold dgetD at ih ⊢
      rw [List.zip_cons_cons, List.find?_cons]
      simp only [e', decide_false]
      exact ih
theorem dget_adj {w : Web} {lot : List Nat} {p : Nat} (h : p < w.many) : dgetD ((List.range w.many).map fun (n : Nat) => (n : Int)) ((List.range w.many).map fun p => .lst ((adj w lot p).map encP)) (p : Int) = some (.lst ((adj w lot p).map encP)) := by
  rw [List.range_eq_range']
  exact dget_range (fun p => D.lst ((adj w lot p).map encP)) (Nat.zero_le _) (by omega)

def noOw : Sl → Bool
  | .ow _ => false
  | .ti _ => false
  | _ => true
theorem ownDic_cons {r : Sl} {ρ : En} (h : noOw r = true) (h2 : ownDic ρ = true) : ownDic (r :: ρ) = true := by
  cases r with
  | un => exact h2
  | va d => exact h2
  | ow d => cases h
  | ti d => cases h
theorem all_noLst (l : List Nat) : (l.map nD).all noLst = true := by
  rw [List.all_map]
  exact List.all_eq_true.mpr fun _ _ => rfl
end K17
end

section
set_option maxRecDepth 100000
set_option maxHeartbeats 4000000
namespace K17
open PySem PySem.Spec PyProof.Rows L2 DL MN
section
variable {P : Program} {w : World} {K : PySem.W.Frag} {mg : Str → Option Value} {base : Heap} {C : Addr} {f : Addr} {fd : FuncData}

def r_is_number (ds : List D) (r : Option D) : Prop := ∃ i : Int, ds = [.int i] ∧ r = some (.bl true)
theorem cal_is_number (T : Txt K mg C) (Dx : DefAt K mg "is_number" s_is_number f fd)  : CalD P w K mg base 1 "is_number" ["thing"] (spD C 1 r_is_number) := by
  refine mkCal Dx sc_is_number bd_is_number (by decide) fun f cdv A outer s H E hr => have hu := hu_of hr; ⟨_, (pss_one (ps_ret (pe_and (pe_callB (crIsi K) (by rfl) T.isinstance (by decide +kernel) (pa_cons (pv 0) (pa_cons (pe_bltn (v := .ty "int") (u := .type "int") (by rfl) T.int (by decide +kernel) rfl) pa_nil))) (pe_one (pe_not (pe_callB (crIsi K) (by rfl) T.isinstance (by decide +kernel) (pa_cons (pv 0) (pa_cons (pe_bltn (v := .ty "bool") (u := .type "bool") (by rfl) T.bool (by decide +kernel) rfl) pa_nil)))))))), ?_⟩
  rintro ds r _ ⟨i, rfl, rfl⟩
  exact run_ret (ev_andV (b1 := true) (b2 := true) (ev_isi (ev_var rfl) (ev_c fun _ => .ty _) rfl k_int_int) fun _ => ev_notV (b := false) (ev_isi (ev_var rfl) (ev_c fun _ => .ty _) rfl k_int_bool)) rfl
def r_is_from (ds : List D) (r : Option D) : Prop := ∃ i j : Int, j ≤ i ∧ ds = [.int i, .int j] ∧ r = some (.bl true)
theorem cal_is_from (T : Txt K mg C) (Dx : DefAt K mg "is_from" s_is_from f fd) (c_is_number : CalD P w K mg base 1 "is_number" ["thing"] (spD C 1 r_is_number)) : CalD P w K mg base 2 "is_from" ["thing", "least"] (spD C 2 r_is_from) := by
  refine mkCal Dx sc_is_from bd_is_from (by decide) fun f cdv A outer s H E hr => have hu := hu_of hr; ⟨_, (pss_one (ps_ret (pe_and (pe_d c_is_number hr (by decide) (by rfl) (pa_cons (pv 0) pa_nil)) (pe_one (pe_cmpR op_ge (pv 0) (pv 1) (nomark _)))))), ?_⟩
  rintro ds r _ ⟨i, j, h, rfl, rfl⟩
  refine run_ret ((ev_andV (b1 := true) (ev_callD (ds := [_]) (ea_cons (ev_var rfl) ea_nil) ⟨i, rfl, rfl⟩ rfl) fun _ => ev_op (ev_var rfl) (ev_var rfl) opv_bl).is ?_) rfl
  simp [h]
def r_is_within (ds : List D) (r : Option D) : Prop := ∃ i j k : Int, j ≤ i ∧ i ≤ k ∧ ds = [.int i, .int j, .int k] ∧ r = some (.bl true)
theorem cal_is_within (T : Txt K mg C) (Dx : DefAt K mg "is_within" s_is_within f fd) (c_is_number : CalD P w K mg base 1 "is_number" ["thing"] (spD C 1 r_is_number)) : CalD P w K mg base 2 "is_within" ["thing", "least", "most"] (spD C 3 r_is_within) := by
  refine mkCal Dx sc_is_within bd_is_within (by decide) fun f cdv A outer s H E hr => have hu := hu_of hr; ⟨_, (pss_one (ps_ret (pe_and (pe_d c_is_number hr (by decide) (by rfl) (pa_cons (pv 0) pa_nil)) (pe_one (pe_chain op_le op_le (pv 1) (pv 0) (pv 2)))))), ?_⟩
  rintro ds r _ ⟨i, j, k, h, h', rfl, rfl⟩
  refine run_ret ((ev_andV (b1 := true) (ev_callD (ds := [_]) (ea_cons (ev_var rfl) ea_nil) ⟨i, rfl, rfl⟩ rfl) fun _ => ev_chain (ev_var rfl) (ev_var rfl) opv_bl (ev_var rfl) opv_bl).is ?_) rfl
  simp [h, h']
def r_is_long (ds : List D) (r : Option D) : Prop := ∃ (xs : List D) (n : Nat), xs.length = n ∧ ds = [.tup xs, nD n] ∧ r = some (.bl true)
theorem cal_is_long (T : Txt K mg C) (Dx : DefAt K mg "is_long" s_is_long f fd)  : CalD P w K mg base 1 "is_long" ["thing", "length"] (spD C 2 r_is_long) := by
  refine mkCal Dx sc_is_long bd_is_long (by decide) fun f cdv A outer s H E hr => have hu := hu_of hr; ⟨_, (pss_one (ps_ret (pe_and (pe_callB (crIsi K) (by rfl) T.isinstance (by decide +kernel) (pa_cons (pv 0) (pa_cons (pe_bltn (v := .ty "tuple") (u := .type "tuple") (by rfl) T.tuple (by decide +kernel) rfl) pa_nil))) (pe_one (pe_cmpR op_eq (pe_callB (crLen K) (by rfl) T.len PySem.boot_len (pa_cons (pv 0) pa_nil)) (pv 1) (nomark _)))))), ?_⟩
  rintro ds r _ ⟨xs, n, h, rfl, rfl⟩
  refine run_ret (EvD.is (ev_andV (b1 := true) (ev_isi (ev_var rfl) (ev_c fun _ => .ty _) rfl k_tuple_tuple) fun _ => ev_op (ev_lenT (ev_var rfl)) (ev_var rfl) opv_eqI) ?_) rfl
  simp [h]
def r_ascends (ds : List D) (r : Option D) : Prop := ∃ l : List Nat, l.Pairwise (· < ·) ∧ l.length ≤ 1000 ∧ ds = [nT l] ∧ r = some (.bl true)
theorem cal_ascends (T : Txt K mg C) (Dx : DefAt K mg "ascends" s_ascends f fd)  : CalD P w K mg base 1 "ascends" ["row"] (spD C 1 r_ascends) := by
  refine mkCal Dx sc_ascends bd_ascends (by decide) fun f cdv A outer s H E hr => have hu := hu_of hr; ⟨_, (pss_one (ps_ret (pe_callB (crAll K) (by rfl) T.all (by decide +kernel) (pa_cons (pe_lc (own := [("k", 1)]) rfl sc_ascends.nd (pi_range1 rfl T.range (pa_cons (pe_op op_sub (pe_callB (crLen K) (by rfl) T.len PySem.boot_len (pa_cons (pv 0) pa_nil)) pe_int) pa_nil)) (blkOk_by rfl) (fun _ _ _ _ _ => (pg_name (i := 1) sc_ascends.nd rfl (Or.inl rfl))) (fun _ _ _ _ _ => pts_nil) (fun _ _ _ _ _ => (pe_cmpR op_lt (pe_ix (ixT K) (pv 0) (pv 1) (fun _ _ => rfl)) (pe_ix (ixT K) (pv 0) (pe_op op_add (pv 1) pe_int) (fun _ _ => rfl)) (nomark _)))) pa_nil)))), ?_⟩
  rintro ds r _ ⟨l, hl, hz, rfl, rfl⟩
  show Run C E _ [.va (nT l), .un] _
  have ho : EvD (tCB (DL.rLen K) (tCons (tVar 0) tNil)) [.va (nT l), .un] [.va (nT l), .un] (.va (nD l.length)) := by
    have z := ev_lenT (K := K) (ρ := [.va (nT l), .un]) (ta := tVar 0) (ds := l.map nD) (ev_var rfl)
    rw [List.length_map] at z; exact z
  have e : ((l.length : Int) - 1).toNat = l.length - 1 := by omega
  have hg : ∀ k, k + 1 < l.length → ∃ x y, atI (l.map nD) (k : Int) = some (nD x) ∧ atI (l.map nD) ((k : Int) + 1) = some (nD y) ∧ x < y := fun k hk => by
    refine ⟨l[k], l[k + 1], atI_nat ?_, ?_, ?_⟩
    · rw [List.getElem?_map, List.getElem?_eq_getElem (by omega)] <;> rfl
    · have z := atI_nat (xs := l.map nD) (j := k + 1) (v := nD l[k + 1]) (by rw [List.getElem?_map, List.getElem?_eq_getElem hk] <;> rfl)
      have e3 : ((k + 1 : Nat) : Int) = (k : Int) + 1 := by omega
      rw [e3] at z; exact z
    · exact List.pairwise_iff_getElem.mp hl k (k + 1) (by omega) hk (by omega)
  refine run_ret ((ev_all (ev_lcM (List.range (l.length - 1)) nD (fun _ => .bl true) (fun k => [.va (nT l), .va (nD k)]) ?_ (by simp; omega) rfl (fun x _ => eg_name 1) (fun x hx => ?_) (fun _ _ => rfl) (by simp))).is ?_) rfl
  · rw [← e]
    exact ei_rangeI (ea_cons (ev_op ho (ev_c fun _ => .int _) opv_int) ea_nil) (by omega) (by omega)
  · rw [List.mem_range] at hx
    obtain ⟨a, b, h1, h2, h3⟩ := hg x (by omega)
    refine (ev_op (ev_ixT (ev_var rfl) (ev_var rfl) h1) (ev_ixT (ev_var rfl) (ev_op (ev_var rfl) (ev_c fun _ => .int _) opv_int) h2) opv_bl).is ?_
    simp [h3]
  · simp
def r_set_of (ds : List D) (r : Option D) : Prop := ∃ (l : List Nat) (d : D), (d = nT l ∨ d = nL l) ∧ l.length < 64 ∧ ds = [d] ∧ r = some (nT (setOf l))
theorem cal_set_of (T : Txt K mg C) (Dx : DefAt K mg "set_of" s_set_of f fd)  : CalD P w K mg base 1 "set_of" ["row"] (spD C 1 r_set_of) := by
  refine mkCal Dx sc_set_of bd_set_of (by decide) fun f cdv A outer s H E hr => have hu := hu_of hr; ⟨_, (pss_one (ps_ret (pe_callTy (crTup K) (by rfl) T.tuple (by decide +kernel) (pa_cons (pe_callB (crSortedSet w) (by rfl) T.sorted (by decide +kernel) (pa_cons (pe_callTy (crSet K w) (by rfl) T.set (by decide +kernel) (pa_cons (pv 0) pa_nil)) pa_nil)) pa_nil)))), ?_⟩
  rintro ds r _ ⟨l, d, hd, hz, rfl, rfl⟩
  exact run_ret (ev_tupL (ev_sset (ev_var rfl) hd hz)) rfl
def r_is_guest_of (ds : List D) (r : Option D) : Prop := ∃ (m a b : Nat), a < m ∧ b < m ∧ a ≠ b ∧ ds = [nD m, encP (a, b)] ∧ r = some (.bl true)
theorem cal_is_guest_of (T : Txt K mg C) (Dx : DefAt K mg "is_guest_of" s_is_guest_of f fd) (c_is_long : CalD P w K mg base 1 "is_long" ["thing", "length"] (spD C 2 r_is_long)) (c_is_within : CalD P w K mg base 2 "is_within" ["thing", "least", "most"] (spD C 3 r_is_within)) : CalD P w K mg base 3 "is_guest_of" ["many", "thing"] (spD C 2 r_is_guest_of) := by
  refine mkCal Dx sc_is_guest_of bd_is_guest_of (by decide) fun f cdv A outer s H E hr => have hu := hu_of hr; ⟨_, (pss_one (ps_ret (pe_and (pe_d c_is_long hr (by decide) (by rfl) (pa_cons (pv 1) (pa_cons pe_int pa_nil))) (pe_and (pe_callB (crAll K) (by rfl) T.all (by decide +kernel) (pa_cons (pe_lc (own := [("own", 2)]) rfl sc_is_guest_of.nd (piT K (pv 1)) (blkOk_by rfl) (fun _ _ _ _ _ => (pg_name (i := 2) sc_is_guest_of.nd rfl (Or.inl rfl))) (fun _ _ _ _ _ => pts_nil) (fun _ _ _ _ _ => (pe_d c_is_within hr (by decide) (by rfl) (pa_cons (pv 2) (pa_cons pe_int (pa_cons (pe_op op_sub (pv 0) pe_int) pa_nil)))))) pa_nil)) (pe_one (pe_cmpR op_ne (pe_ix (ixT K) (pv 1) pe_int (fun _ _ => rfl)) (pe_ix (ixT K) (pv 1) pe_int (fun _ _ => rfl)) (nomark _))))))), ?_⟩
  rintro ds r _ ⟨m, a, b, ha, hb, hne, rfl, rfl⟩
  show Run C E _ [.va (nD m), .va (encP (a, b)), .un] _
  have ho : EvD (tOp (rI0 fun i j => .int (i - j)) (tVar 0) (tC (.int 1))) [.va (nD m), .va (encP (a, b)), .un] [.va (nD m), .va (encP (a, b)), .un] (.va (.int ((m : Int) - 1))) := ev_op (ev_var rfl) (ev_c fun _ => .int _) opv_int
  refine run_ret ((ev_andV (b1 := true) (ev_callD (ds := [_, _]) (ea_cons (ev_var rfl) (ea_cons (ev_c fun _ => .int _) ea_nil)) ⟨_, 2, rfl, rfl, rfl⟩ rfl) fun _ => ev_andV (b1 := true) (b2 := true)
    ((ev_all (ev_lcM [a, b] nD (fun _ => .bl true) (fun x => [.va (nD m), .va (encP (a, b)), .va (nD x)]) (ei_tup (ev_var rfl)) (by simp) rfl (fun x _ => eg_name 2) (fun x hx => ?_) (fun _ _ => rfl) (by simp))).is (by rfl))
    fun _ => (ev_op (ev_ixT (ev_var rfl) (ev_c fun _ => .int _) rfl) (ev_ixT (ev_var rfl) (ev_c fun _ => .int _) rfl) opv_neI).is ?_).is (by rfl)) rfl
  · refine ev_callD (ds := [_, _, _]) (ea_cons (ev_var rfl) (ea_cons (ev_c fun _ => .int _) (ea_cons (ev_op (ev_var rfl) (ev_c fun _ => .int _) opv_int) ea_nil))) ⟨_, _, _, ?_, ?_, rfl, rfl⟩ rfl
    · omega
    · rcases List.mem_cons.mp hx with e | e
      · subst e; omega
      · rw [List.mem_singleton] at e; subst e; omega
  · have : ¬ (a : Int) = (b : Int) := by omega
    simp [this]
def r_is_web (ds : List D) (r : Option D) : Prop := ∃ w : Web, w.Ok ∧ ds = [encW w] ∧ r = some (.bl true)
theorem cal_is_web (T : Txt K mg C) (Dx : DefAt K mg "is_web" s_is_web f fd) (c_is_from : CalD P w K mg base 2 "is_from" ["thing", "least"] (spD C 2 r_is_from)) (c_is_guest_of : CalD P w K mg base 3 "is_guest_of" ["many", "thing"] (spD C 2 r_is_guest_of)) (c_is_long : CalD P w K mg base 1 "is_long" ["thing", "length"] (spD C 2 r_is_long)) : CalD P w K mg base 4 "is_web" ["thing"] (spD C 1 r_is_web) := by
  refine mkCal Dx sc_is_web bd_is_web (by decide) fun f cdv A outer s H E hr => have hu := hu_of hr; ⟨_, (pss_cons (ps_if (PW.pt (pw_or (pt_not (pt_val (pe_d c_is_long hr (by decide) (by rfl) (pa_cons (pv 0) (pa_cons pe_int pa_nil))))) (pw_or (pt_not (pt_val (pe_d c_is_from hr (by decide) (by rfl) (pa_cons (pe_ix (ixT K) (pv 0) pe_int (fun _ _ => rfl)) (pa_cons pe_int pa_nil))))) (pw_or1 (pt_not (pt_val (pe_callB (crIsi K) (by rfl) T.isinstance (by decide +kernel) (pa_cons (pe_ix (ixT K) (pv 0) pe_int (fun _ _ => rfl)) (pa_cons (pe_bltn (v := .ty "tuple") (u := .type "tuple") (by rfl) T.tuple (by decide +kernel) rfl) pa_nil))))))))) (pss_one (ps_ret pe_bl)) pss_nil)
      (pss_one (ps_ret (pe_callB (crAll K) (by rfl) T.all (by decide +kernel) (pa_cons (pe_lc (own := [("own", 1)]) rfl sc_is_web.nd (piT K (pe_ix (ixT K) (pv 0) pe_int (fun _ _ => rfl))) (blkOk_by rfl) (fun _ _ _ _ _ => (pg_name (i := 1) sc_is_web.nd rfl (Or.inl rfl))) (fun _ _ _ _ _ => pts_nil) (fun _ _ _ _ _ => (pe_d c_is_guest_of hr (by decide) (by rfl) (pa_cons (pe_ix (ixT K) (pv 0) pe_int (fun _ _ => rfl)) (pa_cons (pv 1) pa_nil))))) pa_nil))))), ?_⟩
  rintro ds r _ ⟨w, hw, rfl, rfl⟩
  show Run C E _ [.va (encW w), .un] _
  refine run_seq1 (run_if (et_or (b1 := false) (et_not (b := true) (et_test (ev_callD (ds := [_, _]) (ea_cons (ev_var rfl) (ea_cons (ev_c fun _ => .int _) ea_nil)) ⟨_, 2, rfl, rfl, rfl⟩ rfl))) fun _ =>
    et_or (b1 := false) (b2 := false) (et_not (b := true) (et_test (ev_callD (ds := [_, _]) (ea_cons (ev_w0 rfl) (ea_cons (ev_c fun _ => .int _) ea_nil)) ⟨_, _, ?_, rfl, rfl⟩ rfl))) fun _ => et_not (b := true) (et_test (ev_isi (ev_w1 rfl) (ev_c fun _ => .ty _) rfl k_tuple_tuple))) (fun h => ?_) (fun _ => run_next rfl)) ?_
  · have := hw.pos; omega
  · cases h
  · refine run_ret ((ev_all (ev_lcM w.gs encP (fun _ => .bl true) (fun p => [.va (encW w), .va (encP p)]) (ei_tup (ev_w1 rfl)) (by have := hw.few; omega) rfl (fun x _ => eg_name 1) (fun x hx => ?_) (fun _ _ => rfl) (by simp))).is ?_) rfl
    · obtain ⟨h1, h2, h3⟩ := hw.ends x hx
      exact ev_callD (ds := [_, _]) (ea_cons (ev_w0 rfl) (ea_cons (ev_var rfl) ea_nil)) ⟨w.many, x.1, x.2, h1, h2, h3, rfl, rfl⟩ rfl
    · simp

/-! tupled, by depth -/
def r_tupledN (n : Nat) (ds : List D) (r : Option D) : Prop := ∃ d : D, depD d < n ∧ wid d = true ∧ ds = [d] ∧ r = some (tupD d)
abbrev r_tupled := r_tupledN 5
theorem cal_tupledN (T : Txt K mg C) (Dx : DefAt K mg "tupled" s_tupled f fd) : ∀ n : Nat, CalD P w K mg base (n + 1) "tupled" ["value"] (spD C 1 (r_tupledN n))
  | 0 => mkCalX Dx sc_tupled bd_tupled (by decide) fun f cdv A outer s H E hr ds r _ h => by
    obtain ⟨d, h, _⟩ := h
    exact absurd h (Nat.not_lt_zero _)
  | n + 1 => by
    have c_tupled : CalD P w K mg base (n + 1) "tupled" ["value"] (spD C 1 (r_tupledN n)) := cal_tupledN T Dx n
    have go : ∀ (ds : List D) (d : D), depD d = depDs ds + 1 → depD d < n + 1 → wids ds = true → ds.length ≤ 1000 → (∀ d ∈ ds, r_tupledN n [d] (some (tupD d))) := fun ds d e h hw hz x hx => ⟨x, by have := depDs_mem hx; omega, wids_mem hw hx, rfl, rfl⟩
    refine mkCalX Dx sc_tupled bd_tupled (by decide) fun f cdv A outer s H E hr ds r _ h => ?_
    obtain ⟨d, hd, hw, rfl, rfl⟩ := h
    match d, hd, hw with
    | .lst ds, hd, hw =>
      rw [wid, Bool.and_eq_true] at hw
      have hz : ds.length ≤ 1000 := of_decide_eq_true hw.2
      refine ⟨_, PSs.nox (pss_one (ps_ret (pe_ifExp (pt_val (pe_callB (crIsiT K) (by rfl) T.isinstance (by decide +kernel) (pa_cons (pv 0) (pa_cons (pe_tup (pa_cons (pe_bltn (v := .ty "list") (u := .type "list") (by rfl) T.list (by decide +kernel) rfl) (pa_cons (pe_bltn (v := .ty "tuple") (u := .type "tuple") (by rfl) T.tuple (by decide +kernel) rfl) pa_nil))) pa_nil)))) (pe_callTy (crTup K) (by rfl) T.tuple (by decide +kernel) (pa_cons (pe_lc (own := [("own", 1)]) rfl sc_tupled.nd (piL K (pv 0)) (blkOk_by rfl) (fun _ _ _ _ _ => (pg_name (i := 1) sc_tupled.nd rfl (Or.inl rfl))) (fun _ _ _ _ _ => pts_nil) (fun _ _ _ _ _ => (pe_d c_tupled hr (Nat.le_refl _) (by rfl) (pa_cons (pv 1) pa_nil)))) pa_nil)) (pv 0)))), ?_⟩
      show Run C E _ [.va (.lst ds), .un] _
      refine run_ret (ev_if (b := true) (et_test (EvD.is (ev_call (xs := [_, _]) (ea_cons (ev_var rfl) (ea_cons (ev_tup (xs := [_, _]) (ea_cons (ev_c fun _ => .ty _) (ea_cons (ev_c fun _ => .ty _) ea_nil)) (by simp)) ea_nil)) (cv_isiT rfl k_list_list k_list_tuple)) rfl)) (fun _ => ev_tupL (ev_lcM ds id tupD (fun x => [.va (.lst ds), .va x]) ?_ (by omega) rfl (fun x _ => eg_name 1) (fun x hx => ?_) (fun _ _ => rfl) (by simp))) (fun z => by cases z)) ?_
      · rw [List.map_id]; exact ei_list (ev_var rfl)
      · exact ev_callD (ds := [_]) (ea_cons (ev_var rfl) ea_nil) (go ds _ rfl hd hw.1 hz x hx) rfl
      · show some _ = some _
        rw [tupD, tupDs_map]
    | .tup ds, hd, hw =>
      rw [wid, Bool.and_eq_true] at hw
      have hz : ds.length ≤ 1000 := of_decide_eq_true hw.2
      refine ⟨_, PSs.nox (pss_one (ps_ret (pe_ifExp (pt_val (pe_callB (crIsiT K) (by rfl) T.isinstance (by decide +kernel) (pa_cons (pv 0) (pa_cons (pe_tup (pa_cons (pe_bltn (v := .ty "list") (u := .type "list") (by rfl) T.list (by decide +kernel) rfl) (pa_cons (pe_bltn (v := .ty "tuple") (u := .type "tuple") (by rfl) T.tuple (by decide +kernel) rfl) pa_nil))) pa_nil)))) (pe_callTy (crTup K) (by rfl) T.tuple (by decide +kernel) (pa_cons (pe_lc (own := [("own", 1)]) rfl sc_tupled.nd (piT K (pv 0)) (blkOk_by rfl) (fun _ _ _ _ _ => (pg_name (i := 1) sc_tupled.nd rfl (Or.inl rfl))) (fun _ _ _ _ _ => pts_nil) (fun _ _ _ _ _ => (pe_d c_tupled hr (Nat.le_refl _) (by rfl) (pa_cons (pv 1) pa_nil)))) pa_nil)) (pv 0)))), ?_⟩
      show Run C E _ [.va (.tup ds), .un] _
      refine run_ret (ev_if (b := true) (et_test (EvD.is (ev_call (xs := [_, _]) (ea_cons (ev_var rfl) (ea_cons (ev_tup (xs := [_, _]) (ea_cons (ev_c fun _ => .ty _) (ea_cons (ev_c fun _ => .ty _) ea_nil)) (by simp)) ea_nil)) (cv_isiT rfl k_tuple_list k_tuple_tuple)) rfl)) (fun _ => ev_tupL (ev_lcM ds id tupD (fun x => [.va (.tup ds), .va x]) ?_ (by omega) rfl (fun x _ => eg_name 1) (fun x hx => ?_) (fun _ _ => rfl) (by simp))) (fun z => by cases z)) ?_
      · rw [List.map_id]; exact ei_tup (ev_var rfl)
      · exact ev_callD (ds := [_]) (ea_cons (ev_var rfl) ea_nil) (go ds _ rfl hd hw.1 hz x hx) rfl
      · show some _ = some _
        rw [tupD, tupDs_map]
    | .int i, hd, hw =>
      refine ⟨_, PSs.nox (pss_one (ps_ret (pe_ifExp (pt_val (pe_callB (crIsiT K) (by rfl) T.isinstance (by decide +kernel) (pa_cons (pv 0) (pa_cons (pe_tup (pa_cons (pe_bltn (v := .ty "list") (u := .type "list") (by rfl) T.list (by decide +kernel) rfl) (pa_cons (pe_bltn (v := .ty "tuple") (u := .type "tuple") (by rfl) T.tuple (by decide +kernel) rfl) pa_nil))) pa_nil)))) (pe_callTy (crTup K) (by rfl) T.tuple (by decide +kernel) (pa_cons (pe_lc (own := [("own", 1)]) rfl sc_tupled.nd (piT K (pv 0)) (blkOk_by rfl) (fun _ _ _ _ _ => (pg_name (i := 1) sc_tupled.nd rfl (Or.inl rfl))) (fun _ _ _ _ _ => pts_nil) (fun _ _ _ _ _ => (pe_d c_tupled hr (Nat.le_refl _) (by rfl) (pa_cons (pv 1) pa_nil)))) pa_nil)) (pv 0)))), ?_⟩
      show Run C E _ [.va (.int i), .un] _
      exact run_ret (ev_if (b := false) (et_test (EvD.is (ev_call (xs := [_, _]) (ea_cons (ev_var rfl) (ea_cons (ev_tup (xs := [_, _]) (ea_cons (ev_c fun _ => .ty _) (ea_cons (ev_c fun _ => .ty _) ea_nil)) (by simp)) ea_nil)) (cv_isiT rfl k_int_list k_int_tuple)) rfl)) (fun z => by cases z) fun _ => (ev_var rfl)) rfl
    | .non, _, hw => exact absurd hw (by simp [wid])
    | .bl _, _, hw => exact absurd hw (by simp [wid])
    | .str _, _, hw => exact absurd hw (by simp [wid])
    | .dic _ _, _, hw => exact absurd hw (by simp [wid])
    | .ob _, _, hw => exact absurd hw (by simp [wid])
    | .ty _, _, hw => exact absurd hw (by simp [wid])
    | .scr _ _, _, hw => exact absurd hw (by simp [wid])
theorem cal_tupled (T : Txt K mg C) (Dx : DefAt K mg "tupled" s_tupled f fd) : CalD P w K mg base 6 "tupled" ["value"] (spD C 1 r_tupled) := cal_tupledN T Dx 5

end
end K17
end

section
set_option maxRecDepth 100000
set_option maxHeartbeats 4000000
namespace K17
open PySem PySem.Spec PyProof.Rows L2 DL MN
section
variable {P : Program} {w : World} {K : PySem.W.Frag} {mg : Str → Option Value} {base : Heap} {C : Addr} {f : Addr} {fd : FuncData}


theorem adj_mem {w : Web} {lot : List Nat} {p : Nat} {e : Nat × Nat} (h : e ∈ adj w lot p) : e.1 ∈ lot ∧ (((w.g e.1).1 = p ∧ (w.g e.1).2 = e.2) ∨ ((w.g e.1).2 = p ∧ (w.g e.1).1 = e.2)) := by
  unfold adj at h
  obtain ⟨g, hg, h⟩ := List.mem_flatMap.mp h
  unfold adj1 at h
  rcases List.mem_append.mp h with h | h
  · by_cases c : (w.g g).1 = p
    · rw [if_pos c, List.mem_singleton] at h; subst h; exact ⟨hg, .inl ⟨c, rfl⟩⟩
    · rw [if_neg c] at h; cases h
  · by_cases c : (w.g g).2 = p
    · rw [if_pos c, List.mem_singleton] at h; subst h; exact ⟨hg, .inr ⟨c, rfl⟩⟩
    · rw [if_neg c] at h; cases h
theorem adj_of {w : Web} {lot : List Nat} {g : Nat} (hg : g ∈ lot) : (g, (w.g g).2) ∈ adj w lot (w.g g).1 ∧ (g, (w.g g).1) ∈ adj w lot (w.g g).2 := by
  unfold adj adj1
  exact ⟨List.mem_flatMap.mpr ⟨g, hg, List.mem_append.mpr (.inl (by simp))⟩, List.mem_flatMap.mpr ⟨g, hg, List.mem_append.mpr (.inr (by simp))⟩⟩
theorem g_ok {w : Web} (hw : w.Ok) {g : Nat} (h : g < w.gs.length) : (w.g g).1 < w.many ∧ (w.g g).2 < w.many ∧ (w.g g).1 ≠ (w.g g).2 := by
  refine hw.ends _ ?_
  unfold Web.g
  rw [List.getD_eq_getElem?_getD, List.getElem?_eq_getElem h]
  exact List.getElem_mem h
theorem adj_lt {w : Web} (hw : w.Ok) {lot : List Nat} (hl : ∀ g ∈ lot, g < w.gs.length) {p : Nat} {e : Nat × Nat} (h : e ∈ adj w lot p) : e.2 < w.many ∧ e.1 < w.gs.length := by
  obtain ⟨h1, h2⟩ := adj_mem h
  have h3 := g_ok hw (hl _ h1)
  refine ⟨?_, hl _ h1⟩
  rcases h2 with ⟨_, e⟩ | ⟨_, e⟩ <;> omega
theorem adj_len (w : Web) (p : Nat) : ∀ lot : List Nat, (adj w lot p).length ≤ 2 * lot.length
  | [] => by simp [adj]
  | g :: lot => by
    have ih := adj_len w p lot
    unfold adj at ih ⊢
    rw [List.flatMap_cons, List.length_append, List.length_cons]
    have : (adj1 w p g).length ≤ 2 := by
      unfold adj1
      rw [List.length_append]
      split <;> split <;> simp
    omega


def r_beside_by (ds : List D) (r : Option D) : Prop := ∃ (w : Web) (lot : List Nat), w.Ok ∧ (∀ g ∈ lot, g < w.gs.length) ∧ lot.length ≤ 100 ∧ ds = [encW w, nT lot] ∧ r = some (adjD w lot)

def r_sure_web (ds : List D) (r : Option D) : Prop := ∃ (d : D) (w : Web), w.Ok ∧ tupD d = encW w ∧ depD d < 5 ∧ wid d = true ∧ ds = [d] ∧ r = some (encW w)
theorem cal_sure_web (T : Txt K mg C) (Dx : DefAt K mg "sure_web" s_sure_web f fd) (c_is_web : CalD P w K mg base 4 "is_web" ["thing"] (spD C 1 r_is_web)) (c_tupled : CalD P w K mg base 6 "tupled" ["value"] (spD C 1 r_tupled)) : CalD P w K mg base 7 "sure_web" ["web"] (spD C 1 r_sure_web) := by
  refine mkCal Dx sc_sure_web bd_sure_web (by decide) fun f cdv A outer s H E hr => have hu := hu_of hr; ⟨_, (pss_cons (ps_set (i := 1) sc_sure_web.nd rfl (Or.inl rfl) (pe_d c_tupled hr (by decide) (by rfl) (pa_cons (pv 0) pa_nil)))
      (pss_cons (ps_if (pt_not (pt_val (pe_d c_is_web hr (by decide) (by rfl) (pa_cons (pv 1) pa_nil)))) (pss_one ps_never) pss_nil)
      (pss_one (ps_ret (pv 1))))), ?_⟩
  rintro ds r _ ⟨d, w, hw, h, h1, h2, rfl, rfl⟩
  show Run C E _ [.va d, .un] _
  refine run_seq1 (run_set (ev_callD (ds := [_]) (ea_cons (ev_var rfl) ea_nil) ⟨d, h1, h2, rfl, rfl⟩ rfl) rfl) ?_
  rw [h]
  refine run_seq1 (run_if (et_not (b := true) (et_test (ev_callD (ds := [_]) (ea_cons (ev_var rfl) ea_nil) ⟨w, hw, rfl, rfl⟩ rfl))) (fun z => by cases z) fun _ => run_next rfl) ?_
  exact run_ret (ev_var rfl) rfl
def r_sure_guest (ds : List D) (r : Option D) : Prop := ∃ (w : Web) (g : Nat), w.Ok ∧ g < w.gs.length ∧ ds = [encW w, nD g] ∧ r = some (nD g)
theorem cal_sure_guest (T : Txt K mg C) (Dx : DefAt K mg "sure_guest" s_sure_guest f fd) (c_is_number : CalD P w K mg base 1 "is_number" ["thing"] (spD C 1 r_is_number)) (c_is_within : CalD P w K mg base 2 "is_within" ["thing", "least", "most"] (spD C 3 r_is_within)) : CalD P w K mg base 3 "sure_guest" ["web", "guest"] (spD C 2 r_sure_guest) := by
  refine mkCal Dx sc_sure_guest bd_sure_guest (by decide) fun f cdv A outer s H E hr => have hu := hu_of hr; ⟨_, (pss_cons (ps_if (pt_not (pt_val (pe_d c_is_number hr (by decide) (by rfl) (pa_cons (pv 1) pa_nil)))) (pss_one ps_never) pss_nil)
      (pss_cons (ps_if (pt_not (pt_val (pe_d c_is_within hr (by decide) (by rfl) (pa_cons (pv 1) (pa_cons pe_int (pa_cons (pe_op op_sub (pe_callB (crLen K) (by rfl) T.len PySem.boot_len (pa_cons (pe_ix (ixT K) (pv 0) pe_int (fun _ _ => rfl)) pa_nil)) pe_int) pa_nil)))))) (pss_one ps_never) pss_nil)
      (pss_one (ps_ret (pv 1))))), ?_⟩
  rintro ds r _ ⟨w, g, hw, hg, rfl, rfl⟩
  show Run C E _ [.va (encW w), .va (nD g)] _
  refine run_seq1 (run_if (et_not (b := true) (et_test (ev_callD (ds := [_]) (ea_cons (ev_var rfl) ea_nil) ⟨_, rfl, rfl⟩ rfl))) (fun z => by cases z) fun _ => run_next rfl) ?_
  refine run_seq1 (run_if (et_not (b := true) (et_test (ev_callD (ds := [_, _, _]) (ea_cons (ev_var rfl) (ea_cons (ev_c fun _ => .int _) (ea_cons (ev_op (ev_lenG rfl) (ev_c fun _ => .int _) opv_int) ea_nil))) ⟨_, _, _, ?_, ?_, rfl, rfl⟩ rfl))) (fun z => by cases z) fun _ => run_next rfl) ?_
  · omega
  · omega
  · exact run_ret (ev_var rfl) rfl
def r_unwanted_in (ds : List D) (r : Option D) : Prop := ∃ w : Web, w.Ok ∧ ds = [encW w] ∧ r = some (nL (unwantedIn w))
theorem cal_unwanted_in (T : Txt K mg C) (Dx : DefAt K mg "unwanted_in" s_unwanted_in f fd)  : CalD P w K mg base 1 "unwanted_in" ["web"] (spD C 1 r_unwanted_in) := by
  refine mkCal Dx sc_unwanted_in bd_unwanted_in (by decide) fun f cdv A outer s H E hr => have hu := hu_of hr; ⟨_, (pss_cons (ps_set (i := 1) sc_unwanted_in.nd rfl (Or.inr rfl) (pe_dc (own := [("own", 2)]) rfl sc_unwanted_in.nd (piT K (pe_ix (ixT K) (pv 0) pe_int (fun _ _ => rfl))) (blkOk_by rfl) (fun _ _ _ _ _ => (pg_name (i := 2) sc_unwanted_in.nd rfl (Or.inl rfl))) (fun _ _ _ _ _ => pts_nil) (fun _ _ _ _ _ => (pe_ix (ixT K) (pv 2) pe_int (fun _ _ => rfl))) (fun _ _ _ _ _ => pe_bl)))
      (pss_one (ps_ret (pe_lc (own := [("place", 3)]) rfl sc_unwanted_in.nd (pi_range1 rfl T.range (pa_cons (pe_ix (ixT K) (pv 0) pe_int (fun _ _ => rfl)) pa_nil)) (blkOk_by rfl) (fun _ _ _ _ _ => (pg_name (i := 3) sc_unwanted_in.nd rfl (Or.inl rfl))) (fun _ _ _ _ _ => (pts_one (pt_cmp (pc_dnotin hu (pv 3) (pv 1)) (by rfl)))) (fun _ _ _ _ _ => (pv 3)))))), ?_⟩
  rintro ds r _ ⟨w, hw, rfl, rfl⟩
  show Run C E _ [.va (encW w), .un, .un, .un] _
  refine run_seq1 (run_set (ev_dcSeen w.gs encP (·.1) (fun p => [.va (encW w), .un, .va (encP p), .un]) (ei_tup (ev_w1 rfl)) (by have := hw.few; omega) rfl (fun x _ => eg_name 2) (fun x _ => ev_ixT (ev_var rfl) (ev_c fun _ => .int _) rfl) (fun _ _ => (ev_c fun _ => .bl _)) (fun _ _ => rfl) (by simp)) rfl) ?_
  refine run_ret (EvD.fz (ev_lcP (List.range w.many) nD (fun p => !decide (p ∈ w.gs.map (·.1))) nD (fun p => [.va (encW w), .ow (seenD ((w.gs.map (·.1)).foldl put [])), .un, .va (nD p)]) ?_ (by have := hw.small; simp; omega) rfl (fun x _ => eg_name 3) (fun x hx => ?_) (fun x _ _ => (ev_var rfl)) (fun _ _ => rfl) (by simp))) rfl
  · exact ei_range1 (ea_cons (ev_w0 rfl) ea_nil) (by have := hw.small; omega)
  · refine EvT.bor (EvT.is (et_B (ev_op (ev_var rfl) (ev_var rfl) opv_seen_ni)) ?_)
    have e : (x ∈ (w.gs.map (·.1)).foldl put []) ↔ x ∈ w.gs.map (·.1) := by rw [mem_puts]; simp
    simp only [e]
def r_is_lot_in (ds : List D) (r : Option D) : Prop := ∃ (w : Web) (l : List Nat), w.Ok ∧ Lot w l ∧ l.length ≤ 100 ∧ ds = [encW w, nT l] ∧ r = some (.bl true)
theorem cal_is_lot_in (T : Txt K mg C) (Dx : DefAt K mg "is_lot_in" s_is_lot_in f fd) (c_ascends : CalD P w K mg base 1 "ascends" ["row"] (spD C 1 r_ascends)) (c_is_within : CalD P w K mg base 2 "is_within" ["thing", "least", "most"] (spD C 3 r_is_within)) : CalD P w K mg base 3 "is_lot_in" ["web", "thing"] (spD C 2 r_is_lot_in) := by
  refine mkCal Dx sc_is_lot_in bd_is_lot_in (by decide) fun f cdv A outer s H E hr => have hu := hu_of hr; ⟨_, (pss_cons (ps_set (i := 2) sc_is_lot_in.nd rfl (Or.inr rfl) (pe_op op_sub (pe_callB (crLen K) (by rfl) T.len PySem.boot_len (pa_cons (pe_ix (ixT K) (pv 0) pe_int (fun _ _ => rfl)) pa_nil)) pe_int))
      (pss_one (ps_ret (pe_and (pe_callB (crIsi K) (by rfl) T.isinstance (by decide +kernel) (pa_cons (pv 1) (pa_cons (pe_bltn (v := .ty "tuple") (u := .type "tuple") (by rfl) T.tuple (by decide +kernel) rfl) pa_nil))) (pe_and (pe_callB (crAll K) (by rfl) T.all (by decide +kernel) (pa_cons (pe_lc (own := [("guest", 3)]) rfl sc_is_lot_in.nd (piT K (pv 1)) (blkOk_by rfl) (fun _ _ _ _ _ => (pg_name (i := 3) sc_is_lot_in.nd rfl (Or.inl rfl))) (fun _ _ _ _ _ => pts_nil) (fun _ _ _ _ _ => (pe_d c_is_within hr (by decide) (by rfl) (pa_cons (pv 3) (pa_cons pe_int (pa_cons (pv 2) pa_nil)))))) pa_nil)) (pe_one (pe_d c_ascends hr (by decide) (by rfl) (pa_cons (pv 1) pa_nil)))))))), ?_⟩
  rintro ds r _ ⟨w, l, hw, hl, hz, rfl, rfl⟩
  show Run C E _ [.va (encW w), .va (nT l), .un, .un] _
  refine run_seq1 (run_set (ev_op (ev_lenG rfl) (ev_c fun _ => .int _) opv_int) rfl) ?_
  refine run_ret (EvD.is (ev_andV (b1 := true) (ev_isi (ev_var rfl) (ev_c fun _ => .ty _) rfl k_tuple_tuple) fun _ => ev_andV (b1 := true) (b2 := true)
    (EvD.is (ev_all (ev_lcM l nD (fun _ => .bl true) (fun x => [.va (encW w), .va (nT l), .va (.int ((w.gs.length : Int) - 1)), .va (nD x)]) (ei_tup (ev_var rfl)) (by omega) rfl (fun x _ => eg_name 3) (fun x hx => ?_) (fun _ _ => rfl) (by simp))) (by simp))
    fun _ => ev_callD (ds := [_]) (ea_cons (ev_var rfl) ea_nil) ⟨l, hl.asc, by omega, rfl, rfl⟩ rfl) (by rfl)) rfl
  have := hl.lt x hx
  exact ev_callD (ds := [_, _, _]) (ea_cons (ev_var rfl) (ea_cons (ev_c fun _ => .int _) (ea_cons (ev_var rfl) ea_nil))) ⟨_, _, _, by omega, by omega, rfl, rfl⟩ rfl
def r_sure_lot (ds : List D) (r : Option D) : Prop := ∃ (d : D) (w : Web) (l : List Nat), w.Ok ∧ Lot w l ∧ l.length ≤ 100 ∧ tupD d = nT l ∧ depD d < 5 ∧ wid d = true ∧ ds = [encW w, d] ∧ r = some (nT l)
theorem cal_sure_lot (T : Txt K mg C) (Dx : DefAt K mg "sure_lot" s_sure_lot f fd) (c_is_lot_in : CalD P w K mg base 3 "is_lot_in" ["web", "thing"] (spD C 2 r_is_lot_in)) (c_tupled : CalD P w K mg base 6 "tupled" ["value"] (spD C 1 r_tupled)) : CalD P w K mg base 7 "sure_lot" ["web", "lot"] (spD C 2 r_sure_lot) := by
  refine mkCal Dx sc_sure_lot bd_sure_lot (by decide) fun f cdv A outer s H E hr => have hu := hu_of hr; ⟨_, (pss_cons (ps_set (i := 2) sc_sure_lot.nd rfl (Or.inl rfl) (pe_d c_tupled hr (by decide) (by rfl) (pa_cons (pv 1) pa_nil)))
      (pss_cons (ps_if (pt_not (pt_val (pe_d c_is_lot_in hr (by decide) (by rfl) (pa_cons (pv 0) (pa_cons (pv 2) pa_nil))))) (pss_one ps_never) pss_nil)
      (pss_one (ps_ret (pv 2))))), ?_⟩
  rintro ds r _ ⟨d, w, l, hw, hl, hz, h, h1, h2, rfl, rfl⟩
  show Run C E _ [.va (encW w), .va d, .un] _
  refine run_seq1 (run_set (ev_callD (ds := [_]) (ea_cons (ev_var rfl) ea_nil) ⟨d, h1, h2, rfl, rfl⟩ rfl) rfl) ?_
  rw [h]
  refine run_seq1 (run_if (et_not (b := true) (et_test (ev_callD (ds := [_, _]) (ea_cons (ev_var rfl) (ea_cons (ev_var rfl) ea_nil)) ⟨w, l, hw, hl, hz, rfl, rfl⟩ rfl))) (fun z => by cases z) fun _ => run_next rfl) ?_
  exact run_ret (ev_var rfl) rfl
def r_others_in (ds : List D) (r : Option D) : Prop := ∃ (w : Web) (l : List Nat), w.Ok ∧ ds = [encW w, nT l] ∧ r = some (nT (othersIn w l))
theorem cal_others_in (T : Txt K mg C) (Dx : DefAt K mg "others_in" s_others_in f fd)  : CalD P w K mg base 1 "others_in" ["web", "lot"] (spD C 2 r_others_in) := by
  refine mkCal Dx sc_others_in bd_others_in (by decide) fun f cdv A outer s H E hr => have hu := hu_of hr; ⟨_, (pss_one (ps_ret (pe_callTy (crTup K) (by rfl) T.tuple (by decide +kernel) (pa_cons (pe_lc (own := [("guest", 2)]) rfl sc_others_in.nd (pi_range1 rfl T.range (pa_cons (pe_callB (crLen K) (by rfl) T.len PySem.boot_len (pa_cons (pe_ix (ixT K) (pv 0) pe_int (fun _ _ => rfl)) pa_nil)) pa_nil)) (blkOk_by rfl) (fun _ _ _ _ _ => (pg_name (i := 2) sc_others_in.nd rfl (Or.inl rfl))) (fun _ _ _ _ _ => (pts_one (pt_cmpR (opNi K) (pv 2) (pv 1) rfl))) (fun _ _ _ _ _ => (pv 2))) pa_nil)))), ?_⟩
  rintro ds r _ ⟨w, l, hw, rfl, rfl⟩
  show Run C E _ [.va (encW w), .va (nT l), .un] _
  refine run_ret (ev_tupL (ev_lcP (List.range w.gs.length) nD (fun g => !decide (g ∈ l)) nD (fun g => [.va (encW w), .va (nT l), .va (nD g)]) (ei_range1 (ea_cons (ev_lenG rfl) ea_nil) (by have := hw.few; omega)) (by have := hw.few; simp; omega) rfl (fun x _ => eg_name 2) (fun x hx => ?_) (fun x _ _ => (ev_var rfl)) (fun _ _ => rfl) (by simp))) rfl
  exact et_test (ev_op (ev_var rfl) (ev_var rfl) opv_ni_nT)
def r_guests_in (ds : List D) (r : Option D) : Prop := ∃ (w : Web) (l p : List Nat), (∀ g ∈ l, g < w.gs.length) ∧ l.length ≤ 100 ∧ ds = [encW w, nT l, nT p] ∧ r = some (nT (guestsIn w l p))
theorem cal_guests_in (T : Txt K mg C) (Dx : DefAt K mg "guests_in" s_guests_in f fd)  : CalD P w K mg base 1 "guests_in" ["web", "lot", "part"] (spD C 3 r_guests_in) := by
  refine mkCal Dx sc_guests_in bd_guests_in (by decide) fun f cdv A outer s H E hr => have hu := hu_of hr; ⟨_, (pss_one (ps_ret (pe_callTy (crTup K) (by rfl) T.tuple (by decide +kernel) (pa_cons (pe_lc (own := [("guest", 3)]) rfl sc_guests_in.nd (piT K (pv 1)) (blkOk_by rfl) (fun _ _ _ _ _ => (pg_name (i := 3) sc_guests_in.nd rfl (Or.inl rfl))) (fun _ _ _ _ _ => (pts_one (pt_cmpR (opIn K) (pe_ix (ixT K) (pe_ix (ixT K) (pe_ix (ixT K) (pv 0) pe_int (fun _ _ => rfl)) (pv 3) (fun _ _ => rfl)) pe_int (fun _ _ => rfl)) (pv 2) rfl))) (fun _ _ _ _ _ => (pv 3))) pa_nil)))), ?_⟩
  rintro ds r _ ⟨w, l, p, hl, hz, rfl, rfl⟩
  show Run C E _ [.va (encW w), .va (nT l), .va (nT p), .un] _
  refine run_ret (ev_tupL (ev_lcP l nD (fun g => decide ((w.g g).1 ∈ p)) nD (fun g => [.va (encW w), .va (nT l), .va (nT p), .va (nD g)]) (ei_tup (ev_var rfl)) (by omega) rfl (fun x _ => eg_name 3) (fun x hx => ?_) (fun x _ _ => (ev_var rfl)) (fun _ _ => rfl) (by simp))) rfl
  exact et_test (ev_op (ev_wg0 rfl (ev_var rfl) (hl x hx)) (ev_var rfl) opv_in_nT)
def r_part_from (ds : List D) (r : Option D) : Prop := ∃ (w : Web) (lot : List Nat) (p : Nat), w.Ok ∧ (∀ g ∈ lot, g < w.gs.length) ∧ lot.length ≤ 100 ∧ p < w.many ∧ ds = [adjD w lot, nD p] ∧ r = some (nT (partFrom w lot p))
theorem cal_part_from (T : Txt K mg C) (Dx : DefAt K mg "part_from" s_part_from f fd)  : CalD P w K mg base 1 "part_from" ["known", "place"] (spD C 2 r_part_from) := by
  refine mkCal Dx sc_part_from bd_part_from (by decide) fun f cdv A outer s H E hr => have hu := hu_of hr; ⟨_, (pss_cons (ps_par (i := 2) (j := 3) rfl sc_part_from.nd rfl rfl (by decide) rfl rfl (pa_cons (pe_lst (pa_cons (pv 1) pa_nil)) (pa_cons pe_int pa_nil)) (by rfl))
      (pss_cons (ps_while PassesOwn.never (pt_cmpR op_lt (pv 3) (pe_callB (crLen K) (by rfl) T.len PySem.boot_len (pa_cons (pv 2) pa_nil)) (nomark _)) (pss_cons (ps_for PassesOwn.never rfl (piL K (pe_dget hu (pv 0) (pe_ix (ixL K) (pv 2) (pv 3) (fun _ _ => rfl)) (fun _ _ => rfl))) (pgT K (pgs_cons (pg_name (i := 4) sc_part_from.nd rfl (Or.inl rfl)) (pgs_cons (pg_name (i := 5) sc_part_from.nd rfl (Or.inl rfl)) pgs_nil))) (pss_one (ps_if (pt_cmpR (opNi K) (pv 5) (pv 2) rfl) (pss_one (ps_expr (bmL K PySem.F.slot_list_append PySem.F.type_list_append mt_append (pv 2) (pa_cons (pv 5) pa_nil)))) pss_nil)))
      (pss_one (ps_set (i := 3) sc_part_from.nd rfl (Or.inl rfl) (pe_op op_add (pv 3) pe_int)))))
      (pss_one (ps_ret (pe_callTy (crTup K) (by rfl) T.tuple (by decide +kernel) (pa_cons (pe_callB (crSorted K) (by rfl) T.sorted (by decide +kernel) (pa_cons (pv 2) pa_nil)) pa_nil)))))), ?_⟩
  rintro ds r _ ⟨w, lot, p, hw, hl, hz, hp, rfl, rfl⟩
  show Run C E _ [.va (adjD w lot), .va (nD p), .un, .un, .un, .un] _
  refine run_seq1 (run_par (ea_cons (ev_lst (xs := [_]) (ea_cons (ev_var rfl) ea_nil) (by simp)) (ea_cons (ev_c fun _ => .int _) ea_nil)) rfl (by decide)) ?_
  refine run_seq (fun ρ => ∃ u3 u4 u5, ρ = [.va (adjD w lot), .va (nD p), .ow (nL (bfs (nbr w lot) (w.many + 1) [p] 0)), u3, u4, u5]) (run_while (fun n ρ => ∃ row spot u4 u5, n + spot = w.many + 1 ∧ row.Nodup ∧ (∀ x ∈ row, x < w.many) ∧ spot ≤ row.length ∧ bfs (nbr w lot) n row spot = bfs (nbr w lot) (w.many + 1) [p] 0 ∧ ρ = [.va (adjD w lot), .va (nD p), .ow (nL row), .va (nD spot), u4, u5]) (w.many + 1) ⟨[p], 0, .un, .un, rfl, by simp, by simpa using hp, by simp, rfl, rfl⟩ ?_) ?_
  · rintro n _ ⟨row, spot, u4, u5, h1, h2, h3, h4, h5, rfl⟩
    have hlen : row.length ≤ w.many := len_of_lt h2 h3
    have hsm := hw.small
    obtain ⟨f, rfl⟩ : ∃ f, n = f + 1 := ⟨n - 1, by omega⟩
    rw [bfs] at h5
    refine ⟨decide (spot < row.length), _, EvT.bor (EvT.is (et_test (ev_op (ev_var rfl) (ev_lenL (ev_var rfl)) opv_bl)) ?_), fun hb => ?_, fun hb => ?_⟩
    · rw [List.length_map]; simp
    · have hlt : spot < row.length := by simpa using hb
      rw [if_pos hlt] at h5
      have hx : row[spot]? = some (row.getD spot 0) := by rw [List.getD_eq_getElem?_getD, List.getElem?_eq_getElem hlt] <;> rfl
      generalize row.getD spot 0 = x at hx h5
      have hxl : x < w.many := h3 x (List.mem_of_getElem? hx)
      refine run_seq (fun ρ => ∃ u4 u5, ρ = [.va (adjD w lot), .va (nD p), .ow (nL ((nbr w lot x).foldl put row)), .va (nD spot), u4, u5] ∧ ((nbr w lot x).foldl put row).Nodup ∧ ∀ y ∈ (nbr w lot x).foldl put row, y < w.many)
        (run_forF (adj w lot x) encP (fun r e => put r e.2) row (fun r ρ => ∃ u4 u5, ρ = [.va (adjD w lot), .va (nD p), .ow (nL r), .va (nD spot), u4, u5] ∧ r.Nodup ∧ ∀ y ∈ r, y < w.many)
          (ei_list (ev_op (ev_var rfl) (EvD.bor (ev_ixL (ev_var rfl) (ev_var rfl) (atI_nat (by rw [List.getElem?_map, hx] <;> rfl))) rfl) (opv_dget (dget_adj hxl)))) ⟨_, _, rfl, h2, h3⟩ ?_ ?_) ?_
      · rintro r e _ he ⟨u4, u5, rfl, n1, n2⟩
        refine ⟨_, _, eg_tup (egs_name (egs_name egs_nil)) rfl, ?_⟩
        have hr' := len_of_lt n1 n2
        refine run_if (EvT.bor (et_test (ev_op (ev_var rfl) (ev_var rfl) opv_ni_nL))) (fun hb => ?_) fun hb => run_next ?_
        · refine run_drop (ev_append rfl (ev_var rfl) rfl (by rw [List.length_map]; omega)) ⟨.va (nD e.1), .va (nD e.2), ?_, put_nodup n1, fun y hy => ?_⟩
          · have hm : ¬ e.2 ∈ r := by simpa using hb
            have e1 : put r e.2 = r ++ [e.2] := if_neg hm
            rw [e1]; simp only [nL, List.map_append]; rfl
          · rcases mem_put.mp hy with h | h
            · exact n2 y h
            · rw [h]; exact (adj_lt hw hl he).1
        · have hm : e.2 ∈ r := by simpa using hb
          have e1 : put r e.2 = r := if_pos hm
          rw [e1]
          exact ⟨_, _, rfl, n1, n2⟩
      · rintro ρ2 ⟨u4, u5, e, n1, n2⟩
        have e2 : (adj w lot x).foldl (fun r e => put r e.2) row = (nbr w lot x).foldl put row := by unfold nbr; rw [List.foldl_map]
        rw [e2] at e n1 n2
        exact ⟨u4, u5, e, n1, n2⟩
      · rintro _ ⟨u4, u5, rfl, n1, n2⟩
        refine run_set (EvD.is (ev_op (ev_var rfl) (ev_c fun _ => .int _) opv_int) ?_) ⟨f, Nat.lt_succ_self f, (nbr w lot x).foldl put row, spot + 1, u4, u5, by omega, n1, n2, ?_, h5, rfl⟩
        · show D.int ((spot : Int) + 1) = nD (spot + 1)
          simp
        · have sub : ∀ (m r : List Nat), r.length ≤ (m.foldl put r).length := by
            intro m
            induction m with
            | nil => intro r; exact Nat.le_refl _
            | cons a m ih => intro r; rw [List.foldl_cons]; have := ih (put r a); unfold put at this ⊢; split at this <;> simp_all <;> omega
          have := sub (nbr w lot x) row
          omega
    · have hge : ¬ spot < row.length := by simpa using hb
      rw [if_neg hge] at h5
      subst h5
      exact ⟨_, _, _, rfl⟩
  · rintro _ ⟨u3, u4, u5, rfl⟩
    refine run_ret (ev_tupL (EvD.frz (i := 2) rfl (ev_callO (xs := [_]) (ea_cons (ev_var rfl) ea_nil) co_sortedN))) rfl

theorem puts_lt {n : Nat} {m r : List Nat} (hm : ∀ x ∈ m, x < n) (hr : ∀ x ∈ r, x < n) : ∀ x ∈ m.foldl put r, x < n := fun x hx => by
  rcases mem_puts.mp hx with h | h
  · exact hr x h
  · exact hm x h
theorem bfs_ok {nb : Nat → List Nat} {n : Nat} (hn : ∀ p, ∀ x ∈ nb p, x < n) : ∀ (f : Nat) (row : List Nat) (spot : Nat), row.Nodup → (∀ x ∈ row, x < n) → (bfs nb f row spot).Nodup ∧ (∀ x ∈ bfs nb f row spot, x < n) ∧ ∀ x ∈ row, x ∈ bfs nb f row spot
  | 0, row, spot, h1, h2 => ⟨h1, h2, fun _ h => h⟩
  | f + 1, row, spot, h1, h2 => by
    rw [bfs]
    split
    · obtain ⟨a, b, c⟩ := bfs_ok hn f ((nb (row.getD spot 0)).foldl put row) (spot + 1) (puts_nodup h1) (puts_lt (hn _) h2)
      exact ⟨a, b, fun x hx => c x (mem_puts.mpr (.inl hx))⟩
    · exact ⟨h1, h2, fun _ h => h⟩
theorem nbr_lt {w : Web} (hw : w.Ok) {lot : List Nat} (hl : ∀ g ∈ lot, g < w.gs.length) (p : Nat) : ∀ x ∈ nbr w lot p, x < w.many := fun x hx => by
  unfold nbr at hx
  obtain ⟨e, he, rfl⟩ := List.mem_map.mp hx
  exact (adj_lt hw hl he).1
theorem partFrom_ok {w : Web} (hw : w.Ok) {lot : List Nat} (hl : ∀ g ∈ lot, g < w.gs.length) {p : Nat} (hp : p < w.many) : (partFrom w lot p).Nodup ∧ (∀ x ∈ partFrom w lot p, x < w.many) ∧ p ∈ partFrom w lot p := by
  obtain ⟨a, b, c⟩ := bfs_ok (nbr_lt hw hl) (w.many + 1) [p] 0 (by simp) (by simpa using hp)
  unfold partFrom
  exact ⟨(srt_perm _).nodup_iff.mpr a, fun x hx => b x ((srt_perm _).mem_iff.mp hx), (srt_perm _).mem_iff.mpr (c p (by simp))⟩
theorem wayLoop_len (ad : Nat → List (Nat × Nat)) (goal barred : Nat) : ∀ (f : Nat) (rows : List (Way × Nat)) (seen : List Nat) (k : Nat), (∀ x ∈ rows, x.1.length ≤ k) → (wayLoop ad goal barred f rows seen).length ≤ k + f
  | 0, rows, seen, k, h => by rw [wayLoop]; simp
  | f + 1, rows, seen, k, h => by
    rw [wayLoop]
    rcases List.eq_nil_or_concat rows with e | ⟨r, l, e⟩
    · subst e; simp
    · rw [List.concat_eq_append] at e
      subst e
      have hl := h l (by simp)
      obtain ⟨row, here⟩ := l
      rw [List.getLast?_concat]
      simp only [List.dropLast_concat]
      split
      · have : row.length ≤ k := hl; omega
      · have key : ∀ (es : List (Nat × Nat)) (s : List (Way × Nat) × List Nat), (∀ x ∈ s.1, x.1.length ≤ k + 1) → ∀ x ∈ (es.foldl (pushStep barred here row) s).1, x.1.length ≤ k + 1 := by
          intro es
          induction es with
          | nil => intro s hs; exact hs
          | cons e es ih =>
            intro s hs
            rw [List.foldl_cons]
            refine ih _ fun x hx => ?_
            unfold pushStep at hx
            split at hx
            · rcases List.mem_append.mp hx with h | h
              · exact hs x h
              · rw [List.mem_singleton.mp h, List.length_append, List.length_singleton]
                have : row.length ≤ k := hl; omega
            · exact hs x hx
        have := wayLoop_len ad goal barred f ((ad here).foldl (pushStep barred here row) (r, seen)).1 ((ad here).foldl (pushStep barred here row) (r, seen)).2 (k + 1) (key _ _ fun x hx => by have := h x (by simp [hx]); omega)
        omega
theorem wayLoop_mem {ad : Nat → List (Nat × Nat)} {goal barred : Nat} {lot : List Nat} (had : ∀ p, ∀ e ∈ ad p, e.1 ∈ lot) : ∀ (f : Nat) (rows : List (Way × Nat)) (seen : List Nat), (∀ x ∈ rows, ∀ e ∈ x.1, e.1 ∈ lot) → ∀ e ∈ wayLoop ad goal barred f rows seen, e.1 ∈ lot
  | 0, rows, seen, h => by rw [wayLoop]; simp
  | f + 1, rows, seen, h => by
    rw [wayLoop]
    rcases List.eq_nil_or_concat rows with e | ⟨r, l, e⟩
    · subst e; simp
    · rw [List.concat_eq_append] at e
      subst e
      have hl := h l (by simp)
      obtain ⟨row, here⟩ := l
      rw [List.getLast?_concat]
      simp only [List.dropLast_concat]
      split
      · exact hl
      · have key : ∀ (es : List (Nat × Nat)) (s : List (Way × Nat) × List Nat), (∀ e ∈ es, e.1 ∈ lot) → (∀ x ∈ s.1, ∀ e ∈ x.1, e.1 ∈ lot) → ∀ x ∈ (es.foldl (pushStep barred here row) s).1, ∀ e ∈ x.1, e.1 ∈ lot := by
          intro es
          induction es with
          | nil => intro s _ hs; exact hs
          | cons e es ih =>
            intro s he hs
            rw [List.foldl_cons]
            refine ih _ (fun e' h' => he e' (List.mem_cons_of_mem _ h')) fun x hx => ?_
            unfold pushStep at hx
            split at hx
            · rcases List.mem_append.mp hx with h | h
              · exact hs x h
              · rw [List.mem_singleton.mp h]
                intro e' h'
                rcases List.mem_append.mp h' with h' | h'
                · exact hl e' h'
                · rw [List.mem_singleton.mp h']; exact he e (by simp)
            · exact hs x hx
        exact wayLoop_mem had f _ _ (key _ _ (had here) fun x hx => h x (by simp [hx]))
theorem wayFrom_mem {w : Web} {lot : List Nat} {a b g : Nat} {e : Nat × Nat} (h : e ∈ wayFrom w lot a b g) : e.1 ∈ lot :=
  wayLoop_mem (fun p e he => (adj_mem he).1) (w.many + 1) [([], a)] [a] (by simp) e h
theorem wayFrom_len (w : Web) (lot : List Nat) (a b g : Nat) : (wayFrom w lot a b g).length ≤ w.many + 1 := by
  have := wayLoop_len (adj w lot) b g (w.many + 1) [([], a)] [a] 0 (by simp)
  unfold wayFrom; omega
/-- t[:k] -/
theorem ev_slTo {K : PySem.W.Frag} {ρ ρ1 ρ2 : En} {ta tb : TE} {ds : List D} {k : Nat} (ha : EvD ta ρ ρ1 (.va (.tup ds))) (hb : EvD tb ρ1 ρ2 (.va (nD k))) (hk : k ≤ ds.length) : EvD (tSl (rSlA K) ta tNoPart (tPart tb)) ρ ρ2 (.va (.tup (ds.take k))) := fun t G0 H0 κ τ G H σ hl m Q q => by
  refine EvD.two ha hb hl m (Q := fun v u H2 => ∃ i, u = .int i ∧ rSlA K v none (some i) H2 Q) fun v u G1 H1 m1 => ?_
  obtain ⟨m0, hx, hy⟩ := m1.tail2
  have w1 := hx.rep
  have w2 := hy.rep
  cases w2
  cases w1 with
  | @tup a xs _ h1 h2 =>
    have e0 : HT.sIx xs.length 0 none = 0 := rfl
    have e1 : HT.sIx xs.length xs.length (some (k : Int)) = k := by
      rw [HT.sIx_nat, h2.length]; exact Nat.min_eq_left hk
    have e2 : cutV xs none (some (k : Int)) = xs.take k := by
      unfold cutV; rw [e0, e1, List.drop_zero, Nat.sub_zero]
    refine ⟨_, rfl, a, xs, rfl, SqT.of (m0.gr.gh _ _ h1), fun hw => ?_, fun _ p hp => ?_⟩
    · rw [e1] at hw
      have e3 : ds.take k = ds := List.take_of_length_le (by rw [← h2.length]; omega)
      have r3 : Rep G1 (.ref a) (.tup (ds.take k)) := by rw [e3]; exact .tup h1 h2
      exact q _ G1 H1 (m0.push r3)
    · rw [e2]
      exact q _ _ _ ((m0.new hp).push (.tup upd_same ((h2.take k).up (same_upd (m0.gr.gh.free hp)))))
abbrev encR (x : Way × Nat) : D := .tup [encGs x.1, nD x.2]
theorem noObs_P (l : List (Nat × Nat)) : noObs (l.map encP) = true := by
  induction l with
  | nil => rfl
  | cons a l ih => rw [List.map_cons]; simp only [noObs, noOb, Bool.true_and, Bool.and_true]; exact ih
theorem canLay_P (l : List (Nat × Nat)) : PyData.canLayAll0 (toPys (l.map encP)) = true := by
  induction l with
  | nil => simp [toPys, PyData.canLayAll0]
  | cons a l ih => rw [List.map_cons]; simp only [toPys, toPy, PyData.canLayAll0, PyData.canLay0, Bool.true_and]; exact ih
theorem depth_P (l : List (Nat × Nat)) : PyData.depthAll (toPys (l.map encP)) ≤ 1 := by
  induction l with
  | nil => simp [toPys, PyData.depthAll]
  | cons a l ih => rw [List.map_cons]; simp only [toPys, toPy, PyData.depthAll, PyData.depth]; omega
theorem eqOk_rows (l : List (Way × Nat)) : eqOk (.lst (l.map encR)) = true := by
  have h1 : noObs (l.map encR) = true := by
    induction l with
    | nil => rfl
    | cons a l ih => rw [List.map_cons]; simp only [noObs, noOb, noObs_P, Bool.true_and, Bool.and_true]; exact ih
  have h2 : PyData.canLayAll0 (toPys (l.map encR)) = true := by
    induction l with
    | nil => simp [toPys, PyData.canLayAll0]
    | cons a l ih => rw [List.map_cons]; simp only [toPys, toPy, PyData.canLayAll0, PyData.canLay0, canLay_P, Bool.true_and]; exact ih (by rw [List.map_cons] at h1; simp only [noObs, noOb, noObs_P, Bool.true_and, Bool.and_true] at h1; exact h1)
  have h3 : PyData.depthAll (toPys (l.map encR)) ≤ 3 := by
    clear h1 h2
    induction l with
    | nil => simp [toPys, PyData.depthAll]
    | cons a l ih => rw [List.map_cons]; simp only [toPys, toPy, PyData.depthAll, PyData.depth]; have := depth_P a.1; omega
  unfold eqOk SeqAt.shaped
  simp [noOb, h1, toPy, PyData.canLay0, h2, PyData.depth]
  omega

def r_parts_in (ds : List D) (r : Option D) : Prop := ∃ (w : Web) (lot : List Nat), w.Ok ∧ (∀ g ∈ lot, g < w.gs.length) ∧ lot.length ≤ 100 ∧ ds = [encW w, nT lot] ∧ r = some (.lst ((partsIn w lot).map nT))
theorem cal_parts_in (T : Txt K mg C) (Dx : DefAt K mg "parts_in" s_parts_in f fd) (c_beside_by : CalD P w K mg base 1 "beside_by" ["web", "lot"] (spD C 2 r_beside_by)) (c_part_from : CalD P w K mg base 1 "part_from" ["known", "place"] (spD C 2 r_part_from)) : CalD P w K mg base 2 "parts_in" ["web", "lot"] (spD C 2 r_parts_in) := by
  refine mkCal Dx sc_parts_in bd_parts_in (by decide) fun f cdv A outer s H E hr => have hu := hu_of hr; ⟨_, (pss_cons (ps_par3 (i := 2) (j := 3) (l := 4) rfl sc_parts_in.nd rfl rfl rfl (by decide) (by decide) (by decide) rfl rfl rfl (pa_cons (pe_d c_beside_by hr (by decide) (by rfl) (pa_cons (pv 0) (pa_cons (pv 1) pa_nil))) (pa_cons pe_dnewK (pa_cons (pe_lst pa_nil) pa_nil))) (by rfl))
      (pss_cons (ps_for PassesOwn.never rfl (pi_range1 rfl T.range (pa_cons (pe_ix (ixT K) (pv 0) pe_int (fun _ _ => rfl)) pa_nil)) (pg_name (i := 5) sc_parts_in.nd rfl (Or.inl rfl)) (pss_one (ps_if (pt_cmp (pc_dnotin hu (pv 5) (pv 3)) (by rfl)) (pss_cons (ps_set (i := 6) sc_parts_in.nd rfl (Or.inl rfl) (pe_d c_part_from hr (by decide) (by rfl) (pa_cons (pv 2) (pa_cons (pv 5) pa_nil))))
      (pss_cons (ps_expr (bmL K PySem.F.slot_list_append PySem.F.type_list_append mt_append (pv 4) (pa_cons (pv 6) pa_nil)))
      (pss_one (ps_for PassesOwn.never rfl (piT K (pv 6)) (pg_name (i := 7) sc_parts_in.nd rfl (Or.inl rfl)) (pss_one (ps_dput hu (pv 3) (pv 7) pe_bl rfl)))))) pss_nil)))
      (pss_one (ps_ret (pv 4))))), ?_⟩
  rintro ds r _ ⟨w, lot, hw, hl, hz, rfl, rfl⟩
  show Run C E _ [.va (encW w), .va (nT lot), .un, .un, .un, .un, .un, .un] _
  refine run_seq1 (run_par3 (ea_cons (ev_callD (ds := [_, _]) (ea_cons (ev_var rfl) (ea_cons (ev_var rfl) ea_nil)) ⟨w, lot, hw, hl, hz, rfl, rfl⟩ rfl) (ea_cons ev_dnew (ea_cons (ev_lst (xs := []) ea_nil (by simp)) ea_nil))) rfl (by decide) (by decide) (by decide)) ?_
  have hsm := hw.small
  refine run_seq (fun ρ => ∃ u3 u5 u6 u7, ρ = [.va (encW w), .va (nT lot), .va (adjD w lot), u3, .ow (.lst ((partsIn w lot).map nT)), u5, u6, u7])
    (run_forF (List.range w.many) nD (partsStep w lot) ([], []) (fun s ρ => (∃ u5 u6 u7, ρ = [.va (encW w), .va (nT lot), .va (adjD w lot), .ow (seenD s.2), .ow (.lst (s.1.map nT)), u5, u6, u7]) ∧ s.2.Nodup ∧ (∀ x ∈ s.2, x < w.many) ∧ s.1.length ≤ s.2.length)
      (ei_range1 (ea_cons (ev_w0 rfl) ea_nil) (by omega)) ⟨⟨_, _, _, rfl⟩, List.nodup_nil, by simp, by simp⟩ ?_ ?_) ?_
  · rintro ⟨found, seen⟩ q _ hq ⟨⟨u5, u6, u7, rfl⟩, n1, n2, n3⟩
    rw [List.mem_range] at hq
    refine ⟨_, _, eg_name 5, ?_⟩
    have hlen := len_of_lt n1 n2
    have n3 : found.length ≤ seen.length := n3
    refine run_if (EvT.bor (et_test (ev_op (ev_var rfl) (ev_var rfl) opv_seen_ni))) (fun hb => ?_) fun hb => run_next ?_
    · have hm : ¬ q ∈ seen := by simpa using hb
      have st : partsStep w lot (found, seen) q = (found ++ [partFrom w lot q], (partFrom w lot q).foldl put seen) := if_neg hm
      rw [st]
      refine run_seq1 (run_set (ev_callD (ds := [_, _]) (ea_cons (ev_var rfl) (ea_cons (ev_var rfl) ea_nil)) ⟨w, lot, q, hw, hl, hz, hq, rfl, rfl⟩ rfl) rfl) ?_
      refine run_seq1 (run_drop (ev_append rfl (ev_var rfl) rfl (by rw [List.length_map]; omega)) rfl) ?_
      obtain ⟨b1, b2, b3⟩ := partFrom_ok hw hl hq
      have b4 := len_of_lt b1 b2
      refine run_forF (partFrom w lot q) nD put seen (fun s ρ => (∃ u5 u6 u7, ρ = [.va (encW w), .va (nT lot), .va (adjD w lot), .ow (seenD s), .ow (.lst ((found ++ [partFrom w lot q]).map nT)), u5, u6, u7]) ∧ s.Nodup ∧ (∀ x ∈ s, x < w.many)) (ei_tup (ev_var rfl)) ⟨⟨_, _, _, by rw [List.map_append] <;> rfl⟩, n1, n2⟩ ?_ ?_
      · rintro s x _ hx ⟨⟨u5, u6, u7, rfl⟩, m1, m2⟩
        have hs := len_of_lt m1 m2
        refine ⟨_, _, eg_name 7, run_seen (ev_c fun _ => .bl _) rfl (ev_var rfl) (by omega) ⟨⟨_, _, _, rfl⟩, put_nodup m1, fun y hy => ?_⟩⟩
        rcases mem_put.mp hy with h | h
        · exact m2 y h
        · rw [h]; exact b2 x hx
      · rintro ρ2 ⟨⟨u5, u6, u7, rfl⟩, m1, m2⟩
        refine ⟨⟨u5, u6, u7, rfl⟩, m1, m2, ?_⟩
        show (found ++ [partFrom w lot q]).length ≤ ((partFrom w lot q).foldl put seen).length
        have hsub : ∀ x ∈ q :: seen, x ∈ (partFrom w lot q).foldl put seen := fun x hx => by
          rcases List.mem_cons.mp hx with h | h
          · rw [h]; exact mem_puts.mpr (.inr b3)
          · exact mem_puts.mpr (.inl h)
        have z := (List.nodup_cons.mpr ⟨hm, n1⟩).length_le_of_subset hsub
        rw [List.length_cons] at z
        rw [List.length_append, List.length_singleton]
        omega
    · have hm : q ∈ seen := by simpa using hb
      have st : partsStep w lot (found, seen) q = (found, seen) := if_pos hm
      rw [st]
      exact ⟨⟨_, _, _, rfl⟩, n1, n2, n3⟩
  · rintro ρ2 ⟨⟨u5, u6, u7, rfl⟩, _⟩
    exact ⟨_, _, _, _, rfl⟩
  · rintro _ ⟨u3, u5, u6, u7, rfl⟩
    exact run_ret (EvD.frz (i := 4) rfl (ev_var rfl)) rfl
def r_way_from (ds : List D) (r : Option D) : Prop := ∃ (w : Web) (lot : List Nat) (a b g : Nat), w.Ok ∧ (∀ g ∈ lot, g < w.gs.length) ∧ lot.length ≤ 100 ∧ a < w.many ∧ ds = [adjD w lot, nD a, nD b, nD g] ∧ r = some (encGs (wayFrom w lot a b g))
theorem cal_way_from (T : Txt K mg C) (Dx : DefAt K mg "way_from" s_way_from f fd)  : CalD P w K mg base 1 "way_from" ["known", "place", "goal", "barred"] (spD C 4 r_way_from) := by
  refine mkCal Dx sc_way_from bd_way_from (by decide) fun f cdv A outer s H E hr => have hu := hu_of hr; ⟨_, (pss_cons (ps_par (i := 4) (j := 5) rfl sc_way_from.nd rfl rfl (by decide) rfl rfl (pa_cons (pe_lst (pa_cons (pe_tup (pa_cons (pe_tup pa_nil) (pa_cons (pv 1) pa_nil))) pa_nil)) (pa_cons (pe_disp (pps_cons (pv 1) pe_bl pps_nil) (by rfl) (by rfl) (fun z => by cases z) (by decide)) pa_nil)) (by rfl))
      (pss_cons (ps_while PassesOwn.never (pt_cmpR (opNeD K hr) (pv 4) (pe_lst pa_nil) (nomark _)) (pss_cons (ps_asg (bmL0 K PySem.F.slot_list_pop PySem.F.type_list_pop mt_pop (pv 4)) (pgT K (pgs_cons (pg_name (i := 6) sc_way_from.nd rfl (Or.inl rfl)) (pgs_cons (pg_name (i := 7) sc_way_from.nd rfl (Or.inl rfl)) pgs_nil))))
      (pss_cons (ps_if (pt_cmpR op_eq (pv 7) (pv 2) (nomark _)) (pss_one (ps_ret (pv 6))) pss_nil)
      (pss_one (ps_for PassesOwn.never rfl (piL K (pe_dget hu (pv 0) (pv 7) (fun _ _ => rfl))) (pgT K (pgs_cons (pg_name (i := 8) sc_way_from.nd rfl (Or.inl rfl)) (pgs_cons (pg_name (i := 9) sc_way_from.nd rfl (Or.inl rfl)) pgs_nil))) (pss_one (ps_if (PW.pt (pw_and (pt_cmpR op_ne (pv 8) (pv 3) (nomark _)) (pw_and1 (pt_cmp (pc_dnotin hu (pv 9) (pv 5)) (by rfl))))) (pss_cons (ps_dput hu (pv 5) (pv 9) pe_bl rfl)
      (pss_one (ps_expr (bmL K PySem.F.slot_list_append PySem.F.type_list_append mt_append (pv 4) (pa_cons (pe_tup (pa_cons (pe_op (opCatT K) (pv 6) (pe_tup (pa_cons (pe_tup (pa_cons (pv 8) (pa_cons (pv 7) pa_nil))) pa_nil))) (pa_cons (pv 9) pa_nil))) pa_nil))))) pss_nil)))))))
      (pss_one (ps_ret (pe_tup pa_nil))))), ?_⟩
  rintro ds r _ ⟨w, lot, a, b, g, hw, hl, hz, ha, rfl, rfl⟩
  show Run C E _ [.va (adjD w lot), .va (nD a), .va (nD b), .va (nD g), .un, .un, .un, .un, .un, .un] _
  have hsm := hw.small
  refine run_seq1 (run_par (ea_cons (ev_lst (xs := [_]) (ea_cons (ev_tup (xs := [_, _]) (ea_cons (ev_tup (xs := []) ea_nil (by simp)) (ea_cons (ev_var rfl) ea_nil)) (by simp)) ea_nil) (by simp)) (ea_cons (ev_disp1 (ev_var rfl) (ev_c fun _ => .bl _)) ea_nil)) rfl (by decide)) ?_
  refine run_seq (fun ρ => wayFrom w lot a b g = []) (run_while (fun n ρ => ∃ (rows : List (Way × Nat)) (seen : List Nat) (u6 u7 u8 u9 : Sl), n + seen.length = rows.length + w.many ∧ seen.Nodup ∧ (∀ x ∈ seen, x < w.many) ∧ (∀ x ∈ rows, x.2 < w.many ∧ x.1.length ≤ seen.length) ∧ rows.length ≤ seen.length ∧ wayLoop (adj w lot) b g (n + 1) rows seen = wayFrom w lot a b g ∧
      ρ = [.va (adjD w lot), .va (nD a), .va (nD b), .va (nD g), .ow (.lst (rows.map encR)), .ow (seenD seen), u6, u7, u8, u9]) w.many ⟨[([], a)], [a], .un, .un, .un, .un, ?_, by simp, by simpa using ha, by simpa using ha, by simp, rfl, rfl⟩ ?_) ?_
  · simp; omega
  · rintro n _ ⟨rows, seen, u6, u7, u8, u9, h1, h2, h3, h4, h4b, h5, rfl⟩
    have hlen := len_of_lt h2 h3
    refine ⟨!rows.isEmpty, _, EvT.bor (EvT.is (et_test (ev_op (ev_var rfl) (EvD.fz (ev_lst (xs := []) ea_nil (by simp))) (opv_ne_nil (eqOk_rows rows)))) ?_), fun hb => ?_, fun hb => ?_⟩
    · cases rows <;> rfl
    · obtain ⟨rows', row, here, rfl⟩ : ∃ r p q, rows = r ++ [(p, q)] := by
        rcases List.eq_nil_or_concat rows with e | ⟨r, l, e⟩
        · subst e; cases hb
        · exact ⟨r, l.1, l.2, by rw [e, List.concat_eq_append]⟩
      rw [List.length_append, List.length_singleton] at h1 h4b
      obtain ⟨f, rfl⟩ : ∃ f, n = f + 1 := ⟨n - 1, by omega⟩
      obtain ⟨hh, hrl⟩ := h4 (row, here) (by simp)
      have hh : here < w.many := hh
      have hrl : row.length ≤ seen.length := hrl
      have e0 : (rows' ++ [(row, here)]).map encR = rows'.map encR ++ [encR (row, here)] := by rw [List.map_append] <;> rfl
      rw [wayLoop, List.getLast?_concat] at h5
      simp only [List.dropLast_concat] at h5
      rw [e0]
      refine run_seq1 (run_asg (ev_pop rfl) (eg_tup (egs_name (egs_name egs_nil)) rfl) rfl) ?_
      refine run_seq (fun ρ => ¬ here = b ∧ ρ = [.va (adjD w lot), .va (nD a), .va (nD b), .va (nD g), .ow (.lst (rows'.map encR)), .ow (seenD seen), .va (encGs row), .va (nD here), u8, u9])
        (run_if (et_test (ev_op (ev_var rfl) (ev_var rfl) opv_eqI)) (fun hb => run_ret (ev_var rfl) ?_) (fun hb => run_next ⟨?_, rfl⟩)) ?_
      · have e : here = b := by have := of_decide_eq_true hb; omega
        rw [if_pos e] at h5
        show some _ = some _
        rw [← h5]
      · intro e; subst e; simp at hb
      · rintro _ ⟨hne, rfl⟩
        rw [if_neg hne] at h5
        refine run_forF (adj w lot here) encP (pushStep g here row) (rows', seen) (fun s ρ => (∃ u8 u9, ρ = [.va (adjD w lot), .va (nD a), .va (nD b), .va (nD g), .ow (.lst (s.1.map encR)), .ow (seenD s.2), .va (encGs row), .va (nD here), u8, u9]) ∧ s.2.Nodup ∧ (∀ x ∈ s.2, x < w.many) ∧ (∀ x ∈ s.1, x.2 < w.many ∧ x.1.length ≤ s.2.length) ∧ s.1.length ≤ s.2.length ∧ f + s.2.length = s.1.length + w.many ∧ row.length ≤ s.2.length)
          (ei_list (ev_op (ev_var rfl) (ev_var rfl) (opv_dget (dget_adj hh)))) ⟨⟨_, _, rfl⟩, h2, h3, fun x hx => h4 x (by simp [hx]), by show rows'.length ≤ seen.length; omega, by show f + seen.length = rows'.length + w.many; omega, hrl⟩ ?_ ?_
        · rintro ⟨rs, sn⟩ e _ he ⟨⟨u8, u9, rfl⟩, n1, n2, n3, n4, n5, n6⟩
          have hsn := len_of_lt n1 n2
          have n4 : rs.length ≤ sn.length := n4
          have n6 : row.length ≤ sn.length := n6
          have n5 : f + sn.length = rs.length + w.many := n5
          have n3 : ∀ x ∈ rs, x.2 < w.many ∧ x.1.length ≤ sn.length := n3
          refine ⟨_, _, eg_tup (egs_name (egs_name egs_nil)) rfl, ?_⟩
          refine run_if (et_and (et_test (ev_op (ev_var rfl) (ev_var rfl) opv_neI)) fun _ => EvT.bor (et_B (ev_op (ev_var rfl) (ev_var rfl) opv_seen_ni))) (fun hb => ?_) fun hb => run_next ?_
          · have hc : e.1 ≠ g ∧ e.2 ∉ sn := by
              simp at hb
              exact ⟨fun z => hb.1 (by rw [z]), hb.2⟩
            have st : pushStep g here row (rs, sn) e = (rs ++ [(row ++ [(e.1, here)], e.2)], sn ++ [e.2]) := if_pos hc
            have e1 : put sn e.2 = sn ++ [e.2] := if_neg hc.2
            rw [st]
            refine run_seq1 (run_seen (ev_c fun _ => .bl _) rfl (ev_var rfl) (by omega) rfl) (run_drop (ev_append rfl (ev_tup (xs := [_, _]) (ea_cons (ev_op (ev_var rfl) (ev_tup (xs := [_]) (ea_cons (ev_tup (xs := [_, _]) (ea_cons (ev_var rfl) (ea_cons (ev_var rfl) ea_nil)) (by simp)) ea_nil) (by simp)) (opv_catT (by simp; omega))) (ea_cons (ev_var rfl) ea_nil)) (by simp)) rfl (by rw [List.length_map]; omega)) ⟨⟨.va (nD e.1), .va (nD e.2), ?_⟩, ?_, ?_, ?_, ?_, ?_, ?_⟩)
            · rw [e1]; simp only [List.map_append, List.map_cons, List.map_nil, encR, encGs]; rfl
            · show (sn ++ [e.2]).Nodup
              rw [← e1]; exact put_nodup n1
            · intro x hx
              rcases List.mem_append.mp hx with h | h
              · exact n2 x h
              · rw [List.mem_singleton.mp h]; exact (adj_lt hw hl he).1
            · intro x hx
              show x.2 < w.many ∧ x.1.length ≤ (sn ++ [e.2]).length
              rw [List.length_append, List.length_singleton]
              rcases List.mem_append.mp hx with h | h
              · have := n3 x h; omega
              · rw [List.mem_singleton.mp h]
                refine ⟨(adj_lt hw hl he).1, ?_⟩
                rw [List.length_append, List.length_singleton]; omega
            · simp; omega
            · simp; omega
            · simp; omega
          · have hc : ¬ (e.1 ≠ g ∧ e.2 ∉ sn) := by
              intro hc
              have h1 : ¬ (e.1 : Int) = (g : Int) := by have := hc.1; omega
              simp [h1, hc.2] at hb
            have st : pushStep g here row (rs, sn) e = (rs, sn) := if_neg hc
            rw [st]
            exact ⟨⟨_, _, rfl⟩, n1, n2, n3, n4, n5, n6⟩
        · rintro ρ2 ⟨⟨u8, u9, rfl⟩, n1, n2, n3, n4, n5, n6⟩
          exact ⟨f, Nat.lt_succ_self f, _, _, _, _, u8, u9, n5, n1, n2, n3, n4, h5, rfl⟩
    · have : rows = [] := by cases rows with
        | nil => rfl
        | cons a l => simp at hb
      subst this
      rw [wayLoop] at h5
      exact h5.symm
  · intro ρ e
    refine run_ret (ev_tup (xs := []) ea_nil (by simp)) ?_
    show some _ = some _
    rw [e] <;> rfl
def r_round_of (ds : List D) (r : Option D) : Prop := ∃ (w : Web) (lot part : List Nat), w.Ok ∧ (∀ g ∈ lot, g < w.gs.length) ∧ lot.length ≤ 100 ∧ ds = [encW w, nT lot, nT part] ∧ r = some (match roundOf w lot part with | some way => encGs way | none => .non)
theorem cal_round_of (T : Txt K mg C) (Dx : DefAt K mg "round_of" s_round_of f fd) (c_beside_by : CalD P w K mg base 1 "beside_by" ["web", "lot"] (spD C 2 r_beside_by)) (c_guests_in : CalD P w K mg base 1 "guests_in" ["web", "lot", "part"] (spD C 3 r_guests_in)) (c_part_from : CalD P w K mg base 1 "part_from" ["known", "place"] (spD C 2 r_part_from)) (c_way_from : CalD P w K mg base 1 "way_from" ["known", "place", "goal", "barred"] (spD C 4 r_way_from)) : CalD P w K mg base 2 "round_of" ["web", "lot", "part"] (spD C 3 r_round_of) := by
  refine mkCal Dx sc_round_of bd_round_of (by decide) fun f cdv A outer s H E hr => have hu := hu_of hr; ⟨_, (pss_cons (ps_set (i := 3) sc_round_of.nd rfl (Or.inl rfl) (pe_d c_guests_in hr (by decide) (by rfl) (pa_cons (pv 0) (pa_cons (pv 1) (pa_cons (pv 2) pa_nil)))))
      (pss_cons (ps_for PassesOwn.never rfl (pi_enumT K (by rfl) T.enumerate (pa_cons (pv 3) pa_nil)) (pgT K (pgs_cons (pg_name (i := 4) sc_round_of.nd rfl (Or.inl rfl)) (pgs_cons (pg_name (i := 5) sc_round_of.nd rfl (Or.inl rfl)) pgs_nil))) (pss_cons (ps_set (i := 6) sc_round_of.nd rfl (Or.inl rfl) (pe_slice (slT K) (pv 3) po_none (po_some (pv 4))))
      (pss_cons (ps_asg (pe_ix (ixT K) (pe_ix (ixT K) (pv 0) pe_int (fun _ _ => rfl)) (pv 5) (fun _ _ => rfl)) (pgT K (pgs_cons (pg_name (i := 7) sc_round_of.nd rfl (Or.inl rfl)) (pgs_cons (pg_name (i := 8) sc_round_of.nd rfl (Or.inl rfl)) pgs_nil))))
      (pss_cons (ps_set (i := 9) sc_round_of.nd rfl (Or.inl rfl) (pe_d c_beside_by hr (by decide) (by rfl) (pa_cons (pv 0) (pa_cons (pv 6) pa_nil))))
      (pss_one (ps_if (pt_cmpR (opIn K) (pv 8) (pe_d c_part_from hr (by decide) (by rfl) (pa_cons (pv 9) (pa_cons (pv 7) pa_nil))) rfl) (pss_one (ps_ret (pe_op (opCatT K) (pe_d c_way_from hr (by decide) (by rfl) (pa_cons (pv 9) (pa_cons (pv 7) (pa_cons (pv 8) (pa_cons (pv 5) pa_nil))))) (pe_tup (pa_cons (pe_tup (pa_cons (pv 5) (pa_cons (pv 8) pa_nil))) pa_nil))))) pss_nil))))))
      (pss_one (ps_ret pe_non)))), ?_⟩
  rintro ds r _ ⟨w, lot, part, hw, hl, hz, rfl, rfl⟩
  show Run C E _ [.va (encW w), .va (nT lot), .va (nT part), .un, .un, .un, .un, .un, .un, .un] _
  refine run_seq1 (run_set (ev_callD (ds := [_, _, _]) (ea_cons (ev_var rfl) (ea_cons (ev_var rfl) (ea_cons (ev_var rfl) ea_nil))) ⟨w, lot, part, hl, hz, rfl, rfl⟩ rfl) rfl) ?_
  have hsm := hw.small
  have hgl : ∀ g ∈ guestsIn w lot part, g < w.gs.length := fun g hg => hl g (List.mem_filter.mp hg).1
  have hgz : (guestsIn w lot part).length ≤ 100 := Nat.le_trans (List.length_filter_le _ _) hz
  have er : roundOf w lot part = roundLoop w [] (guestsIn w lot part) := rfl
  rw [er]
  generalize guestsIn w lot part = own at hgl hgz ⊢
  refine run_seq (fun _ => roundLoop w [] own = none) (run_for (ei_enumT (ea_cons (ev_var rfl) ea_nil)) (fun i ρ => (∃ u4 u5 u6 u7 u8 u9, ρ = [.va (encW w), .va (nT lot), .va (nT part), .va (nT own), u4, u5, u6, u7, u8, u9]) ∧ roundLoop w (own.take i) (own.drop i) = roundLoop w [] own) ⟨⟨_, _, _, _, _, _, rfl⟩, rfl⟩ ?_ ?_) ?_
  · rintro i d _ hd ⟨⟨u4, u5, u6, u7, u8, u9, rfl⟩, hi⟩
    obtain ⟨e, he, rfl⟩ := enumD_at hd
    rw [List.getElem?_map] at he
    cases hx : own[i]? with
    | none => rw [hx] at he; cases he
    | some g =>
      rw [hx] at he
      cases he
      have hlt : i < own.length := (List.getElem?_eq_some_iff.mp hx).1
      have hge : own[i] = g := (List.getElem?_eq_some_iff.mp hx).2
      have hg := hgl g (List.mem_of_getElem? hx)
      have hgo := g_ok hw hg
      have hah : ∀ x ∈ own.take i, x < w.gs.length := fun x hx => hgl x (List.mem_of_mem_take hx)
      have haz : (own.take i).length ≤ 100 := by rw [List.length_take]; omega
      rw [List.drop_eq_getElem_cons hlt, hge, roundLoop] at hi
      refine ⟨_, _, eg_tup (egs_name (egs_name egs_nil)) rfl, ?_⟩
      refine run_seq1 (run_set (EvD.is (ev_slTo (ev_var rfl) (ev_var rfl) (by rw [List.length_map]; omega)) (by rw [← List.map_take])) rfl) ?_
      refine run_seq1 (run_asg (ev_wg rfl (ev_var rfl) hg) (eg_tup (egs_name (egs_name egs_nil)) rfl) rfl) ?_
      refine run_seq1 (run_set (ev_callD (ds := [_, _]) (ea_cons (ev_var rfl) (ea_cons (ev_var rfl) ea_nil)) ⟨w, own.take i, hw, hah, haz, rfl, rfl⟩ rfl) rfl) ?_
      refine run_if (et_test (ev_op (ev_var rfl) (ev_callD (ds := [_, _]) (ea_cons (ev_var rfl) (ea_cons (ev_var rfl) ea_nil)) ⟨w, own.take i, _, hw, hah, haz, hgo.1, rfl, rfl⟩ rfl) opv_in_nT)) (fun hb => ?_) (fun hb => run_next ⟨⟨_, _, _, _, _, _, rfl⟩, ?_⟩)
      · rw [if_pos (by simpa using hb)] at hi
        refine run_ret (ev_op (ev_callD (ds := [_, _, _, _]) (ea_cons (ev_var rfl) (ea_cons (ev_var rfl) (ea_cons (ev_var rfl) (ea_cons (ev_var rfl) ea_nil)))) ⟨w, own.take i, _, _, _, hw, hah, haz, hgo.1, rfl, rfl⟩ rfl) (ev_tup (xs := [_]) (ea_cons (ev_tup (xs := [_, _]) (ea_cons (ev_var rfl) (ea_cons (ev_var rfl) ea_nil)) (by simp)) ea_nil) (by simp)) (opv_catT (by have := wayFrom_len w (own.take i) (w.g g).1 (w.g g).2 g; simp; omega))) ?_
        show some _ = some _
        rw [← hi]
        show some (encGs _) = _
        rw [encGs, List.map_append] <;> rfl
      · have ht : own.take (i + 1) = own.take i ++ [g] := by rw [List.take_add_one, hx] <;> rfl
        rw [if_neg (by simpa using hb)] at hi
        rw [ht]; exact hi
  · rintro ρ2 ⟨_, hi⟩
    rw [enumD_length, List.length_map, List.take_length, List.drop_length] at hi
    rw [← hi] <;> rfl
  · intro ρ hn
    refine run_ret (ev_c fun _ => .non) ?_
    show some _ = some _
    rw [hn]
end
end K17
end

section
set_option maxRecDepth 100000
set_option maxHeartbeats 4000000
namespace K17
open PySem PySem.Spec PyProof.Rows L2 DL MN
section
variable {P : Program} {w : World} {K : PySem.W.Frag} {mg : Str → Option Value} {base : Heap} {C : Addr} {f : Addr} {fd : FuncData}


structure InW (w : Web) (d : D) : Prop where
  ok : w.Ok
  tup : tupD d = encW w
  dep : depD d < 5
  wid : K17.wid d = true
structure InL (w : Web) (l : List Nat) (d : D) : Prop where
  lot : Lot w l
  tup : tupD d = nT l
  dep : depD d < 5
  wid : K17.wid d = true
theorem lot_len {w : Web} (hw : w.Ok) {l : List Nat} (hl : Lot w l) : l.length ≤ 100 := by
  have h : l.Nodup := hl.asc.imp fun h => by omega
  have := len_of_lt h hl.lt
  have := hw.few
  omega
theorem others_lt {w : Web} {l : List Nat} : ∀ g ∈ othersIn w l, g < w.gs.length := fun g hg => by
  unfold othersIn at hg
  exact List.mem_range.mp (List.mem_filter.mp hg).1
theorem others_len {w : Web} (hw : w.Ok) {l : List Nat} : (othersIn w l).length ≤ 100 := by
  have := List.length_filter_le (fun g => !decide (g ∈ l)) (List.range w.gs.length)
  rw [List.length_range] at this
  have := hw.few
  unfold othersIn; omega
theorem partsFold {w : Web} (hw : w.Ok) {lot : List Nat} (hl : ∀ g ∈ lot, g < w.gs.length) : ∀ (ps : List Nat) (s : List (List Nat) × List Nat), (∀ p ∈ ps, p < w.many) →
    (s.2.Nodup ∧ (∀ x ∈ s.2, x < w.many) ∧ s.1.length ≤ s.2.length ∧ ∀ part ∈ s.1, ∃ q, q < w.many ∧ part = partFrom w lot q) →
    ((ps.foldl (partsStep w lot) s).2.Nodup ∧ (∀ x ∈ (ps.foldl (partsStep w lot) s).2, x < w.many) ∧ (ps.foldl (partsStep w lot) s).1.length ≤ (ps.foldl (partsStep w lot) s).2.length ∧ ∀ part ∈ (ps.foldl (partsStep w lot) s).1, ∃ q, q < w.many ∧ part = partFrom w lot q)
  | [], s, _, h => h
  | p :: ps, s, hp, h => by
    rw [List.foldl_cons]
    refine partsFold hw hl ps _ (fun q hq => hp q (List.mem_cons_of_mem _ hq)) ?_
    obtain ⟨n1, n2, n3, n4⟩ := h
    unfold partsStep
    split
    · exact ⟨n1, n2, n3, n4⟩
    · rename_i hm
      have hpl := hp p (by simp)
      obtain ⟨b1, b2, b3⟩ := partFrom_ok hw hl hpl
      refine ⟨puts_nodup n1, puts_lt b2 n2, ?_, fun part hpart => ?_⟩
      · have hsub : ∀ x ∈ p :: s.2, x ∈ (partFrom w lot p).foldl put s.2 := fun x hx => by
          rcases List.mem_cons.mp hx with h | h
          · rw [h]; exact mem_puts.mpr (.inr b3)
          · exact mem_puts.mpr (.inl h)
        have z := (List.nodup_cons.mpr ⟨hm, n1⟩).length_le_of_subset hsub
        rw [List.length_cons] at z
        show (s.1 ++ [partFrom w lot p]).length ≤ ((partFrom w lot p).foldl put s.2).length
        rw [List.length_append, List.length_singleton]
        omega
      · rcases List.mem_append.mp hpart with h | h
        · exact n4 part h
        · exact ⟨p, hpl, List.mem_singleton.mp h⟩
theorem partsIn_ok {w : Web} (hw : w.Ok) {lot : List Nat} (hl : ∀ g ∈ lot, g < w.gs.length) : (partsIn w lot).length ≤ 100 ∧ ∀ part ∈ partsIn w lot, part.Nodup ∧ (∀ x ∈ part, x < w.many) ∧ part.length ≤ 100 ∧ part ≠ [] := by
  obtain ⟨n1, n2, n3, n4⟩ := partsFold hw hl (List.range w.many) ([], []) (fun p hp => List.mem_range.mp hp) ⟨List.nodup_nil, by simp, Nat.le_refl _, by simp⟩
  have hs := hw.small
  have h1 := len_of_lt n1 n2
  refine ⟨by unfold partsIn; omega, fun part hp => ?_⟩
  obtain ⟨q, hq, rfl⟩ := n4 part hp
  obtain ⟨b1, b2, b3⟩ := partFrom_ok hw hl hq
  exact ⟨b1, b2, by have := len_of_lt b1 b2; omega, fun e => by rw [e] at b3; cases b3⟩
/-- each part that is no tree has a round -/
def Rnd (w : Web) (o : List Nat) : Prop := ∀ part ∈ partsIn w o, isTree w o part = false → (roundOf w o part).isSome = true
theorem roundLoop_ok {w : Web} {lot : List Nat} {way : Way} : ∀ (rest ahead : List Nat), (∀ g ∈ ahead, g ∈ lot) → (∀ g ∈ rest, g ∈ lot) → roundLoop w ahead rest = some way → way ≠ [] ∧ (∀ e ∈ way, e.1 ∈ lot) ∧ way.length ≤ w.many + 2
  | [], ahead, _, _, h => by rw [roundLoop] at h; cases h
  | g :: rest, ahead, ha, hr, h => by
    rw [roundLoop] at h
    split at h
    · cases h
      refine ⟨by simp, fun e he => ?_, ?_⟩
      · rcases List.mem_append.mp he with h | h
        · exact ha _ (wayFrom_mem h)
        · rw [List.mem_singleton.mp h]; exact hr g (by simp)
      · have := wayFrom_len w ahead (w.g g).1 (w.g g).2 g
        rw [List.length_append, List.length_singleton]; omega
    · exact roundLoop_ok rest (ahead ++ [g]) (fun x hx => by
        rcases List.mem_append.mp hx with h | h
        · exact ha x h
        · rw [List.mem_singleton.mp h]; exact hr g (by simp)) (fun x hx => hr x (List.mem_cons_of_mem _ hx)) h
theorem roundOf_ok {w : Web} {lot part : List Nat} {way : Way} (h : roundOf w lot part = some way) : way ≠ [] ∧ (∀ e ∈ way, e.1 ∈ lot) ∧ way.length ≤ w.many + 2 :=
  roundLoop_ok (guestsIn w lot part) [] (by simp) (fun g hg => (List.mem_filter.mp hg).1) h
theorem grownLoop_len (w : Web) : ∀ (f : Nat) (known found left : List Nat), (grownLoop w f known found left).length ≤ found.length + f
  | 0, known, found, left => by rw [grownLoop]; omega
  | f + 1, known, found, left => by
    rw [grownLoop]
    split
    · omega
    · rename_i g _ _
      have := grownLoop_len w f (put (put known (w.g g).1) (w.g g).2) (found ++ [g]) (left.filter fun h => !decide (h = g))
      rw [List.length_append, List.length_singleton] at this
      exact Nat.le_trans this (by omega)
theorem grownFrom_len (w : Web) (gs first : List Nat) : (grownFrom w gs first).length ≤ gs.length + 1 := by
  have := grownLoop_len w (gs.length + 1) (first.foldl put []) [] gs
  unfold grownFrom
  rw [List.length_nil] at this
  omega
theorem seated_len (w : Web) (way : Way) : (seatedRound w way).length = way.length := by
  unfold seatedRound
  cases way with
  | nil => rfl
  | cons e r => obtain ⟨a, b⟩ := e; simp only; split <;> simp
theorem guests_len (w : Web) (o p : List Nat) : (guestsIn w o p).length ≤ o.length := List.length_filter_le _ _
theorem kept_len {w : Web} (hw : w.Ok) {o p fr : List Nat} (ho : o.length ≤ 100) : (keptIn w o p fr).length ≤ 300 := by
  have hs := hw.small
  have h1 := guests_len w o p
  unfold keptIn
  split
  · have := grownFrom_len w (guestsIn w o p) (p.filter fun p => decide (p ∈ fr)); omega
  · simp only [List.length_append]
    have h2 := grownFrom_len w ((guestsIn w o p).filter fun g => !decide (g ∈ seatedRound w ((roundOf w o p).getD []))) (((roundOf w o p).getD []).map (·.2))
    have h3 := List.length_filter_le (fun g => !decide (g ∈ seatedRound w ((roundOf w o p).getD []))) (guestsIn w o p)
    have h4 := seated_len w ((roundOf w o p).getD [])
    have h5 : ((roundOf w o p).getD []).length ≤ w.many + 2 := by
      cases e : roundOf w o p with
      | none => simp
      | some way => exact (roundOf_ok e).2.2
    omega
theorem flat_len {α : Type} {f : α → List Nat} {k : Nat} : ∀ {l : List α}, (∀ x ∈ l, (f x).length ≤ k) → (l.flatMap f).length ≤ l.length * k
  | [], _ => by simp
  | a :: l, h => by
    have ih := flat_len (l := l) fun x hx => h x (List.mem_cons_of_mem _ hx)
    have := h a (by simp)
    rw [List.flatMap_cons, List.length_append, List.length_cons, Nat.succ_mul]
    omega
theorem eqOk_parts (l : List (List Nat)) : eqOk (.lst (l.map nT)) = true := eqOk_tups l
theorem isEmpty_parts (l : List (List Nat)) : (l.map nT).isEmpty = l.isEmpty := by cases l <;> rfl

def r_both_sure (ds : List D) (r : Option D) : Prop := ∃ (w : Web) (l : List Nat) (dw dl : D), InW w dw ∧ InL w l dl ∧ ds = [dw, dl] ∧ r = some (.tup [encW w, nT l])
theorem cal_both_sure (T : Txt K mg C) (Dx : DefAt K mg "both_sure" s_both_sure f fd) (c_sure_lot : CalD P w K mg base 7 "sure_lot" ["web", "lot"] (spD C 2 r_sure_lot)) (c_sure_web : CalD P w K mg base 7 "sure_web" ["web"] (spD C 1 r_sure_web)) : CalD P w K mg base 8 "both_sure" ["web", "lot"] (spD C 2 r_both_sure) := by
  refine mkCal Dx sc_both_sure bd_both_sure (by decide) fun f cdv A outer s H E hr => have hu := hu_of hr; ⟨_, (pss_cons (ps_set (i := 2) sc_both_sure.nd rfl (Or.inl rfl) (pe_d c_sure_web hr (by decide) (by rfl) (pa_cons (pv 0) pa_nil)))
      (pss_one (ps_ret (pe_tup (pa_cons (pv 2) (pa_cons (pe_d c_sure_lot hr (by decide) (by rfl) (pa_cons (pv 2) (pa_cons (pv 1) pa_nil))) pa_nil)))))), ?_⟩
  rintro ds r _ ⟨w, l, dw, dl, hw, hl, rfl, rfl⟩
  show Run C E _ [.va dw, .va dl, .un] _
  refine run_seq1 (run_set (ev_callD (ds := [_]) (ea_cons (ev_var rfl) ea_nil) ⟨dw, w, hw.ok, hw.tup, hw.dep, hw.wid, rfl, rfl⟩ rfl) rfl) ?_
  exact run_ret (ev_tup (xs := [_, _]) (ea_cons (ev_var rfl) (ea_cons (ev_callD (ds := [_, _]) (ea_cons (ev_var rfl) (ea_cons (ev_var rfl) ea_nil)) ⟨dl, w, l, hw.ok, hl.lot, lot_len hw.ok hl.lot, hl.tup, hl.dep, hl.wid, rfl, rfl⟩ rfl) ea_nil)) (by simp)) rfl
def r_met_by (ds : List D) (r : Option D) : Prop := ∃ (w : Web) (l : List Nat), (∀ g ∈ l, g < w.gs.length) ∧ l.length ≤ 100 ∧ ds = [encW w, nT l] ∧ r = some (nL (metBy w l))
theorem cal_met_by (T : Txt K mg C) (Dx : DefAt K mg "met_by" s_met_by f fd)  : CalD P w K mg base 1 "met_by" ["web", "lot"] (spD C 2 r_met_by) := by
  refine mkCal Dx sc_met_by bd_met_by (by decide) fun f cdv A outer s H E hr => have hu := hu_of hr; ⟨_, (pss_cons (ps_set (i := 2) sc_met_by.nd rfl (Or.inl rfl) (pe_lst pa_nil))
      (pss_cons (ps_for PassesOwn.never rfl (piT K (pv 1)) (pg_name (i := 3) sc_met_by.nd rfl (Or.inl rfl)) (pss_one (ps_expr (bmL K PySem.F.slot_list_extend PySem.F.type_list_extend (mt_extendT K) (pv 2) (pa_cons (pe_ix (ixT K) (pe_ix (ixT K) (pv 0) pe_int (fun _ _ => rfl)) (pv 3) (fun _ _ => rfl)) pa_nil)))))
      (pss_one (ps_ret (pv 2))))), ?_⟩
  rintro ds r _ ⟨w, l, hl, hz, rfl, rfl⟩
  show Run C E _ [.va (encW w), .va (nT l), .un, .un] _
  refine run_seq1 (run_set (ev_lst (xs := []) ea_nil (by simp)) rfl) ?_
  refine run_seq (fun ρ => ∃ u3, ρ = [.va (encW w), .va (nT l), .ow (nL (metBy w l)), u3]) (run_forP l nD (fun pre ρ => ∃ u3, ρ = [.va (encW w), .va (nT l), .ow (nL (metBy w pre)), u3]) (ei_tup (ev_var rfl)) ⟨_, rfl⟩ ?_ (fun _ h => h)) ?_
  · rintro pre g post _ e ⟨u3, rfl⟩
    have hg : g ∈ l := by rw [e]; simp
    refine ⟨_, _, eg_name 3, run_drop (ev_extendT rfl (ev_wg rfl (ev_var rfl) (hl g hg)) rfl ?_) ⟨.va (nD g), ?_⟩⟩
    · have h2 : pre.length ≤ 100 := by have := congrArg List.length e; simp at this; omega
      have h3 := flat_len (f := fun g => [(w.g g).1, (w.g g).2]) (k := 2) (l := pre) fun _ _ => Nat.le_refl _
      rw [List.length_map]
      show (metBy w pre).length + 2 < 100000
      unfold metBy
      omega
    · unfold metBy
      simp only [nL, List.flatMap_append, List.map_append, List.flatMap_cons, List.flatMap_nil, List.map_cons, List.map_nil, List.append_nil]
      rfl
  · rintro _ ⟨u3, rfl⟩
    exact run_ret (EvD.frz (i := 2) rfl (ev_var rfl)) rfl
def r_spare_in (ds : List D) (r : Option D) : Prop := ∃ (w : Web) (l : List Nat), w.Ok ∧ (∀ g ∈ l, g < w.gs.length) ∧ l.length ≤ 100 ∧ ds = [encW w, nT l] ∧ r = some (nL (spareIn w l))
theorem cal_spare_in (T : Txt K mg C) (Dx : DefAt K mg "spare_in" s_spare_in f fd) (c_met_by : CalD P w K mg base 1 "met_by" ["web", "lot"] (spD C 2 r_met_by)) (c_unwanted_in : CalD P w K mg base 1 "unwanted_in" ["web"] (spD C 1 r_unwanted_in)) : CalD P w K mg base 2 "spare_in" ["web", "lot"] (spD C 2 r_spare_in) := by
  refine mkCal Dx sc_spare_in bd_spare_in (by decide) fun f cdv A outer s H E hr => have hu := hu_of hr; ⟨_, (pss_cons (ps_set (i := 2) sc_spare_in.nd rfl (Or.inr rfl) (pe_d c_met_by hr (by decide) (by rfl) (pa_cons (pv 0) (pa_cons (pv 1) pa_nil))))
      (pss_one (ps_ret (pe_lc (own := [("place", 3)]) rfl sc_spare_in.nd (piL K (pe_d c_unwanted_in hr (by decide) (by rfl) (pa_cons (pv 0) pa_nil))) (blkOk_by rfl) (fun _ _ _ _ _ => (pg_name (i := 3) sc_spare_in.nd rfl (Or.inl rfl))) (fun _ _ _ _ _ => (pts_one (pt_cmpR (opNi K) (pv 3) (pv 2) rfl))) (fun _ _ _ _ _ => (pv 3)))))), ?_⟩
  rintro ds r _ ⟨w, l, hw, hl, hz, rfl, rfl⟩
  show Run C E _ [.va (encW w), .va (nT l), .un, .un] _
  have hs := hw.small
  refine run_seq1 (run_set (ev_callD (ds := [_, _]) (ea_cons (ev_var rfl) (ea_cons (ev_var rfl) ea_nil)) ⟨w, l, hl, hz, rfl, rfl⟩ rfl) rfl) ?_
  refine run_ret (EvD.fz (ev_lcP (unwantedIn w) nD (fun p => !decide (p ∈ metBy w l)) nD (fun p => [.va (encW w), .va (nT l), .va (nL (metBy w l)), .va (nD p)]) (ei_list (ev_callD (ds := [_]) (ea_cons (ev_var rfl) ea_nil) ⟨w, hw, rfl, rfl⟩ rfl)) ?_ rfl (fun x _ => eg_name 3) (fun x hx => et_test (ev_op (ev_var rfl) (ev_var rfl) opv_ni_nL)) (fun x _ _ => (ev_var rfl)) (fun _ _ => rfl) (by simp))) rfl
  have := List.length_filter_le (fun p => !decide (p ∈ w.gs.map (·.1))) (List.range w.many)
  rw [List.length_range] at this
  unfold unwantedIn; omega
def r_is_tree_in (ds : List D) (r : Option D) : Prop := ∃ (w : Web) (o p : List Nat), (∀ g ∈ o, g < w.gs.length) ∧ o.length ≤ 100 ∧ ds = [encW w, nT o, nT p] ∧ r = some (.bl (isTree w o p))
theorem cal_is_tree_in (T : Txt K mg C) (Dx : DefAt K mg "is_tree_in" s_is_tree_in f fd) (c_guests_in : CalD P w K mg base 1 "guests_in" ["web", "lot", "part"] (spD C 3 r_guests_in)) : CalD P w K mg base 2 "is_tree_in" ["web", "others", "part"] (spD C 3 r_is_tree_in) := by
  refine mkCal Dx sc_is_tree_in bd_is_tree_in (by decide) fun f cdv A outer s H E hr => have hu := hu_of hr; ⟨_, (pss_one (ps_ret (pe_cmpR op_eq (pe_callB (crLen K) (by rfl) T.len PySem.boot_len (pa_cons (pe_d c_guests_in hr (by decide) (by rfl) (pa_cons (pv 0) (pa_cons (pv 1) (pa_cons (pv 2) pa_nil)))) pa_nil)) (pe_op op_sub (pe_callB (crLen K) (by rfl) T.len PySem.boot_len (pa_cons (pv 2) pa_nil)) pe_int) (nomark _)))), ?_⟩
  rintro ds r _ ⟨w, o, p, ho, hz, rfl, rfl⟩
  show Run C E _ [.va (encW w), .va (nT o), .va (nT p)] _
  refine run_ret (EvD.is (ev_op (ev_lenT (ev_callD (ds := [_, _, _]) (ea_cons (ev_var rfl) (ea_cons (ev_var rfl) (ea_cons (ev_var rfl) ea_nil))) ⟨w, o, p, ho, hz, rfl, rfl⟩ rfl)) (ev_op (ev_lenT (ev_var rfl)) (ev_c fun _ => .int _) opv_int) opv_eqI) ?_) rfl
  unfold isTree
  rw [List.length_map, List.length_map]
def r_is_bad (ds : List D) (r : Option D) : Prop := ∃ (w : Web) (o sp p : List Nat), (∀ g ∈ o, g < w.gs.length) ∧ o.length ≤ 100 ∧ p.length ≤ 1000 ∧ ds = [encW w, nT o, nL sp, nT p] ∧ r = some (.bl (isBad w o sp p))
theorem cal_is_bad (T : Txt K mg C) (Dx : DefAt K mg "is_bad" s_is_bad f fd) (c_guests_in : CalD P w K mg base 1 "guests_in" ["web", "lot", "part"] (spD C 3 r_guests_in)) (c_is_tree_in : CalD P w K mg base 2 "is_tree_in" ["web", "others", "part"] (spD C 3 r_is_tree_in)) : CalD P w K mg base 3 "is_bad" ["web", "others", "spare", "part"] (spD C 4 r_is_bad) := by
  refine mkCal Dx sc_is_bad bd_is_bad (by decide) fun f cdv A outer s H E hr => have hu := hu_of hr; ⟨_, (pss_cons (ps_if (pt_val (pe_d c_is_tree_in hr (by decide) (by rfl) (pa_cons (pv 0) (pa_cons (pv 1) (pa_cons (pv 3) pa_nil))))) (pss_one (ps_ret (pe_not (pe_callB (crAny K) (by rfl) T.any (by decide +kernel) (pa_cons (pe_lc (own := [("place", 4)]) rfl sc_is_bad.nd (piT K (pv 3)) (blkOk_by rfl) (fun _ _ _ _ _ => (pg_name (i := 4) sc_is_bad.nd rfl (Or.inl rfl))) (fun _ _ _ _ _ => pts_nil) (fun _ _ _ _ _ => (pe_cmpR (opIn K) (pv 4) (pv 2) rfl))) pa_nil))))) pss_nil)
      (pss_one (ps_ret (pe_cmpR op_gt (pe_callB (crLen K) (by rfl) T.len PySem.boot_len (pa_cons (pe_d c_guests_in hr (by decide) (by rfl) (pa_cons (pv 0) (pa_cons (pv 1) (pa_cons (pv 3) pa_nil)))) pa_nil)) (pe_callB (crLen K) (by rfl) T.len PySem.boot_len (pa_cons (pv 3) pa_nil)) (nomark _))))), ?_⟩
  rintro ds r _ ⟨w, o, sp, p, ho, hz, hp, rfl, rfl⟩
  show Run C E _ [.va (encW w), .va (nT o), .va (nL sp), .va (nT p), .un] _
  refine run_seq (fun ρ => isTree w o p = false ∧ ρ = [.va (encW w), .va (nT o), .va (nL sp), .va (nT p), .un]) (run_if (et_test (ev_callD (ds := [_, _, _]) (ea_cons (ev_var rfl) (ea_cons (ev_var rfl) (ea_cons (ev_var rfl) ea_nil))) ⟨w, o, p, ho, hz, rfl, rfl⟩ rfl)) (fun hb => ?_) fun hb => run_next ⟨hb, rfl⟩) ?_
  · refine run_ret (ev_notV (ev_any (ev_lcM p nD (fun x => .bl (decide (x ∈ sp))) (fun x => [.va (encW w), .va (nT o), .va (nL sp), .va (nT p), .va (nD x)]) (ei_tup (ev_var rfl)) (by omega) rfl (fun x _ => eg_name 4) (fun x hx => ev_op (ev_var rfl) (ev_var rfl) opv_in_nL) (fun _ _ => rfl) (by simp)))) ?_
    show some _ = some _
    unfold isBad
    rw [if_pos hb] <;> rfl
  · rintro _ ⟨hb, rfl⟩
    refine run_ret (EvD.is (ev_op (ev_lenT (ev_callD (ds := [_, _, _]) (ea_cons (ev_var rfl) (ea_cons (ev_var rfl) (ea_cons (ev_var rfl) ea_nil))) ⟨w, o, p, ho, hz, rfl, rfl⟩ rfl)) (ev_lenT (ev_var rfl)) opv_bl) ?_) rfl
    unfold isBad
    rw [if_neg (by rw [hb]; exact Bool.false_ne_true), List.length_map, List.length_map]
    simp
def r_bad_in (ds : List D) (r : Option D) : Prop := ∃ (w : Web) (l : List Nat), w.Ok ∧ (∀ g ∈ l, g < w.gs.length) ∧ l.length ≤ 100 ∧ ds = [encW w, nT l] ∧ r = some (.lst ((badIn w l).map nT))
theorem cal_bad_in (T : Txt K mg C) (Dx : DefAt K mg "bad_in" s_bad_in f fd) (c_is_bad : CalD P w K mg base 3 "is_bad" ["web", "others", "spare", "part"] (spD C 4 r_is_bad)) (c_others_in : CalD P w K mg base 1 "others_in" ["web", "lot"] (spD C 2 r_others_in)) (c_parts_in : CalD P w K mg base 2 "parts_in" ["web", "lot"] (spD C 2 r_parts_in)) (c_spare_in : CalD P w K mg base 2 "spare_in" ["web", "lot"] (spD C 2 r_spare_in)) : CalD P w K mg base 4 "bad_in" ["web", "lot"] (spD C 2 r_bad_in) := by
  refine mkCal Dx sc_bad_in bd_bad_in (by decide) fun f cdv A outer s H E hr => have hu := hu_of hr; ⟨_, (pss_cons (ps_asg (pe_tup (pa_cons (pe_d c_others_in hr (by decide) (by rfl) (pa_cons (pv 0) (pa_cons (pv 1) pa_nil))) (pa_cons (pe_d c_spare_in hr (by decide) (by rfl) (pa_cons (pv 0) (pa_cons (pv 1) pa_nil))) pa_nil))) (pgT K (n := 2) (pgs_cons (pg_name (i := 2) sc_bad_in.nd rfl (Or.inr rfl)) (pgs_cons (pg_name (i := 3) sc_bad_in.nd rfl (Or.inr rfl)) pgs_nil))))
      (pss_one (ps_ret (pe_lc (own := [("part", 4)]) rfl sc_bad_in.nd (piL K (pe_d c_parts_in hr (by decide) (by rfl) (pa_cons (pv 0) (pa_cons (pv 2) pa_nil)))) (blkOk_by rfl) (fun _ _ _ _ _ => (pg_name (i := 4) sc_bad_in.nd rfl (Or.inl rfl))) (fun _ _ _ _ _ => (pts_one (pt_val (pe_d c_is_bad hr (by decide) (by rfl) (pa_cons (pv 0) (pa_cons (pv 2) (pa_cons (pv 3) (pa_cons (pv 4) pa_nil)))))))) (fun _ _ _ _ _ => (pv 4)))))), ?_⟩
  rintro ds r _ ⟨w, l, hw, hl, hz, rfl, rfl⟩
  show Run C E _ [.va (encW w), .va (nT l), .un, .un, .un] _
  refine run_seq1 (run_asg (ev_tup (xs := [_, _]) (ea_cons (ev_callD (ds := [_, _]) (ea_cons (ev_var rfl) (ea_cons (ev_var rfl) ea_nil)) ⟨w, l, hw, rfl, rfl⟩ rfl) (ea_cons (ev_callD (ds := [_, _]) (ea_cons (ev_var rfl) (ea_cons (ev_var rfl) ea_nil)) ⟨w, l, hw, hl, hz, rfl, rfl⟩ rfl) ea_nil)) (by simp)) (eg_tup (egs_name (egs_name egs_nil)) rfl) rfl) ?_
  obtain ⟨p1, p2⟩ := partsIn_ok hw (lot := othersIn w l) others_lt
  refine run_ret (EvD.fz (ev_lcP (partsIn w (othersIn w l)) nT (isBad w (othersIn w l) (spareIn w l)) nT (fun p => [.va (encW w), .va (nT l), .va (nT (othersIn w l)), .va (nL (spareIn w l)), .va (nT p)]) (ei_list (ev_callD (ds := [_, _]) (ea_cons (ev_var rfl) (ea_cons (ev_var rfl) ea_nil)) ⟨w, _, hw, others_lt, others_len hw, rfl, rfl⟩ rfl)) (by omega) rfl (fun x _ => eg_name 4) (fun x hx => ?_) (fun x _ _ => (ev_var rfl)) (fun _ _ => rfl) (by simp))) rfl
  exact et_test (ev_callD (ds := [_, _, _, _]) (ea_cons (ev_var rfl) (ea_cons (ev_var rfl) (ea_cons (ev_var rfl) (ea_cons (ev_var rfl) ea_nil)))) ⟨w, _, _, x, others_lt, others_len hw, by have := (p2 x hx).2.2.1; omega, rfl, rfl⟩ rfl)
theorem bk_can_be_without : BindK "can_be_without" s_can_be_without ["web", "lot"] := fun _ _ _ _ _ _ us ws hl => by
  rcases us with _ | ⟨a, _ | ⟨b, _ | ⟨c, us⟩⟩⟩ <;> rcases ws with _ | ⟨d, _ | ⟨e, _ | ⟨g, ws⟩⟩⟩ <;> first | rfl | (simp at hl; try omega)
def r_can_be_without (ds : List D) (r : Option D) : Prop := ∃ (w : Web) (l : List Nat) (dw dl : D), InW w dw ∧ InL w l dl ∧ ds = [dw, dl] ∧ r = some (.bl (badIn w l).isEmpty)
theorem cal_can_be_without (T : Txt K mg C) (Dx : DefAt K mg "can_be_without" s_can_be_without f fd) (c_bad_in : CalD P w K mg base 4 "bad_in" ["web", "lot"] (spD C 2 r_bad_in)) (c_both_sure : CalD P w K mg base 8 "both_sure" ["web", "lot"] (spD C 2 r_both_sure)) : CalK P w K mg base 9 "can_be_without" ["web", "lot"] (spD C 2 r_can_be_without) := by
  refine mkCalK Dx sc_can_be_without bd_can_be_without bk_can_be_without (by decide) fun f cdv A outer s H E hr ds r hn hrel => have hu := hu_of hr; ⟨_, PSs.nox (pss_cons (ps_asg (pe_d c_both_sure hr (by decide) (by rfl) (pa_cons (pv 0) (pa_cons (pv 1) pa_nil))) (pgT K (n := 2) (pgs_cons (pg_name (i := 2) sc_can_be_without.nd rfl (Or.inl rfl)) (pgs_cons (pg_name (i := 3) sc_can_be_without.nd rfl (Or.inl rfl)) pgs_nil))))
      (pss_one (ps_ret (pe_cmpR (opEqD K hr) (pe_d c_bad_in hr (by decide) (by rfl) (pa_cons (pv 2) (pa_cons (pv 3) pa_nil))) (pe_lst pa_nil) (nomark _))))), ?_⟩
  obtain ⟨w, l, dw, dl, hw, hl, rfl, rfl⟩ := hrel
  show Run C E _ [.va dw, .va dl, .un, .un] _
  refine run_seq1 (run_asg (ev_callD (ds := [_, _]) (ea_cons (ev_var rfl) (ea_cons (ev_var rfl) ea_nil)) ⟨w, l, dw, dl, hw, hl, rfl, rfl⟩ rfl) (eg_tup (egs_name (egs_name egs_nil)) rfl) rfl) ?_
  refine run_ret (EvD.is (ev_op (ev_callD (ds := [_, _]) (ea_cons (ev_var rfl) (ea_cons (ev_var rfl) ea_nil)) ⟨w, l, hw.ok, hl.lot.lt, lot_len hw.ok hl.lot, rfl, rfl⟩ rfl) (EvD.fz (ev_lst (xs := []) ea_nil (by simp))) (opv_eq_nil (eqOk_parts _))) ?_) rfl
  rw [isEmpty_parts]
def r_next_to (ds : List D) (r : Option D) : Prop := ∃ (w : Web) (gs kn : List Nat), (∀ g ∈ gs, g < w.gs.length) ∧ gs.length ≤ 1000 ∧ ds = [encW w, nL gs, seenD kn] ∧ r = some (nL (nextTo w gs kn))
theorem cal_next_to (T : Txt K mg C) (Dx : DefAt K mg "next_to" s_next_to f fd)  : CalD P w K mg base 1 "next_to" ["web", "guests", "known"] (spD C 3 r_next_to) := by
  refine mkCal Dx sc_next_to bd_next_to (by decide) fun f cdv A outer s H E hr => have hu := hu_of hr; ⟨_, (pss_one (ps_ret (pe_lc (own := [("guest", 3)]) rfl sc_next_to.nd (piL K (pv 1)) (blkOk_by rfl) (fun _ _ _ _ _ => (pg_name (i := 3) sc_next_to.nd rfl (Or.inl rfl))) (fun _ _ _ _ _ => (pts_one (pt_cmpR op_ne (pe_cmp (pc_din hu (pe_ix (ixT K) (pe_ix (ixT K) (pe_ix (ixT K) (pv 0) pe_int (fun _ _ => rfl)) (pv 3) (fun _ _ => rfl)) pe_int (fun _ _ => rfl)) (pv 2)) (by rfl)) (pe_cmp (pc_din hu (pe_ix (ixT K) (pe_ix (ixT K) (pe_ix (ixT K) (pv 0) pe_int (fun _ _ => rfl)) (pv 3) (fun _ _ => rfl)) pe_int (fun _ _ => rfl)) (pv 2)) (by rfl)) (nomark _)))) (fun _ _ _ _ _ => (pv 3))))), ?_⟩
  rintro ds r _ ⟨w, gs, kn, hg, hz, rfl, rfl⟩
  show Run C E _ [.va (encW w), .va (nL gs), .va (seenD kn), .un] _
  refine run_ret (EvD.fz (ev_lcP gs nD (fun g => decide ((w.g g).1 ∈ kn) != decide ((w.g g).2 ∈ kn)) nD (fun g => [.va (encW w), .va (nL gs), .va (seenD kn), .va (nD g)]) (ei_list (ev_var rfl)) (by omega) rfl (fun x _ => eg_name 3) (fun x hx => ?_) (fun x _ _ => (ev_var rfl)) (fun _ _ => rfl) (by simp))) rfl
  exact et_test (ev_op (ev_op (ev_wg0 rfl (ev_var rfl) (hg x hx)) (ev_var rfl) opv_seen_in) (ev_op (ev_wg1 rfl (ev_var rfl) (hg x hx)) (ev_var rfl) opv_seen_in) opv_neB)
def r_grown_from (ds : List D) (r : Option D) : Prop := ∃ (w : Web) (gs first : List Nat), w.Ok ∧ (∀ g ∈ gs, g < w.gs.length) ∧ gs.length ≤ 100 ∧ first.length ≤ 1000 ∧ ds = [encW w, nT gs, nL first] ∧ r = some (nL (grownFrom w gs first))
theorem cal_grown_from (T : Txt K mg C) (Dx : DefAt K mg "grown_from" s_grown_from f fd) (c_next_to : CalD P w K mg base 1 "next_to" ["web", "guests", "known"] (spD C 3 r_next_to)) : CalD P w K mg base 2 "grown_from" ["web", "guests", "first"] (spD C 3 r_grown_from) := by
  refine mkCal Dx sc_grown_from bd_grown_from (by decide) fun f cdv A outer s H E hr => have hu := hu_of hr; ⟨_, (pss_cons (ps_par3 (i := 3) (j := 4) (l := 5) rfl sc_grown_from.nd rfl rfl rfl (by decide) (by decide) (by decide) rfl rfl rfl (pa_cons (pe_callTy (crDictP K) (by rfl) T.dict (by decide +kernel) (pa_cons (pe_lc (own := [("place", 6)]) rfl sc_grown_from.nd (piL K (pv 2)) (blkOk_by rfl) (fun _ _ _ _ _ => (pg_name (i := 6) sc_grown_from.nd rfl (Or.inl rfl))) (fun _ _ _ _ _ => pts_nil) (fun _ _ _ _ _ => (pe_tup (pa_cons (pv 6) (pa_cons pe_bl pa_nil))))) pa_nil)) (pa_cons (pe_lst pa_nil) (pa_cons (pe_callTy (crLst K) (by rfl) T.list (by decide +kernel) (pa_cons (pv 1) pa_nil)) pa_nil))) (by rfl))
      (pss_cons (ps_set (i := 7) sc_grown_from.nd rfl (Or.inl rfl) (pe_d c_next_to hr (by decide) (by rfl) (pa_cons (pv 0) (pa_cons (pv 5) (pa_cons (pv 3) pa_nil)))))
      (pss_cons (ps_while PassesOwn.never (pt_cmpR (opNeD K hr) (pv 7) (pe_lst pa_nil) (nomark _)) (pss_cons (ps_set (i := 8) sc_grown_from.nd rfl (Or.inr rfl) (pe_ix (ixL K) (pv 7) pe_int (fun _ _ => rfl)))
      (pss_cons (ps_expr (bmL K PySem.F.slot_list_append PySem.F.type_list_append mt_append (pv 4) (pa_cons (pv 8) pa_nil)))
      (pss_cons (ps_for PassesOwn.never rfl (piT K (pe_ix (ixT K) (pe_ix (ixT K) (pv 0) pe_int (fun _ _ => rfl)) (pv 8) (fun _ _ => rfl))) (pg_name (i := 6) sc_grown_from.nd rfl (Or.inl rfl)) (pss_one (ps_dput hu (pv 3) (pv 6) pe_bl rfl)))
      (pss_cons (ps_setLc (i := 5) rfl sc_grown_from.nd rfl rfl (sw_true rfl rfl rfl (by decide +kernel)) (own := [("own", 9)]) (piL K (pv 5)) (blkOk_by rfl) (fun _ _ _ _ _ => (pg_name (i := 9) sc_grown_from.nd rfl (Or.inl rfl))) (fun _ _ _ _ _ => (pts_one (pt_cmpR op_ne (pv 9) (pv 8) (nomark _)))) (fun _ _ _ _ _ => (pv 9)))
      (pss_one (ps_set (i := 7) sc_grown_from.nd rfl (Or.inl rfl) (pe_d c_next_to hr (by decide) (by rfl) (pa_cons (pv 0) (pa_cons (pv 5) (pa_cons (pv 3) pa_nil)))))))))))
      (pss_one (ps_ret (pv 4)))))), ?_⟩
  rintro ds r _ ⟨w, gs, first, hw, hg, hz, hf, rfl, rfl⟩
  show Run C E _ [.va (encW w), .va (nT gs), .va (nL first), .un, .un, .un, .un, .un, .un, .un] _
  have fl : ∀ (l m : List Nat), (l.foldl put m).length ≤ m.length + l.length := by
    intro l
    induction l with
    | nil => intro m; simp
    | cons a l ih => intro m; rw [List.foldl_cons, List.length_cons]; have := ih (put m a); have := put_length m a; omega
  have hk0 := fl first []
  have nxt : ∀ {kn left : List Nat} {u6 u7 u8 u9 : Sl} {fnd : List Nat}, (∀ g ∈ left, g < w.gs.length) → left.length ≤ 1000 → noOw u6 = true → noOw u7 = true → noOw u8 = true → noOw u9 = true →
      EvD (tCall (spD C 3 r_next_to) [] E0 (tCons (tVar 0) (tCons (tVar 5) (tCons (tVar 3) tNil)))) [.va (encW w), .va (nT gs), .va (nL first), .ow (seenD kn), .ow (nL fnd), .va (nL left), u6, u7, u8, u9] [.va (encW w), .va (nT gs), .va (nL first), .ow (seenD kn), .ow (nL fnd), .va (nL left), u6, u7, u8, u9] (.va (nL (nextTo w left kn))) := fun {kn left u6 u7 u8 u9 fnd} h1 h2 o6 o7 o8 o9 => by
    refine EvD.hide (d := nL fnd) 4 rfl rfl ?_
    refine EvD.borL (ev_callD (ds := [_, _, _]) (ea_cons (ev_var rfl) (ea_cons (ev_var rfl) (ea_cons (ev_var rfl) ea_nil))) ⟨w, left, kn, h1, h2, rfl, rfl⟩ rfl) (all_noLst _) ?_
    show ownDic (u6 :: u7 :: u8 :: u9 :: []) = true
    exact ownDic_cons o6 (ownDic_cons o7 (ownDic_cons o8 (ownDic_cons o9 rfl)))
  refine run_seq1 (run_par3 (ea_cons (ev_callO (xs := [_]) (ea_cons (EvD.fz (ev_lcM first nD (fun x => .tup [nD x, .bl true]) (fun x => [.va (encW w), .va (nT gs), .va (nL first), .un, .un, .un, .va (nD x), .un, .un, .un]) (ei_list (ev_var rfl)) (by omega) rfl (fun x _ => eg_name 6) (fun x hx => ev_tup (xs := [_, _]) (ea_cons (ev_var rfl) (ea_cons (ev_c fun _ => .bl _) ea_nil)) (by simp)) (fun _ _ => rfl) (by simp))) ea_nil) co_dictP) (ea_cons (ev_lst (xs := []) ea_nil (by simp)) (ea_cons (EvD.fz (ev_lstT (ev_var rfl))) ea_nil))) rfl (by decide) (by decide) (by decide)) ?_
  refine run_seq1 (run_set (nxt (kn := first.foldl put []) (left := gs) (fnd := []) hg (by omega) rfl rfl rfl rfl) rfl) ?_
  refine run_seq (fun ρ => ∃ u3 u5 u6 u7 u8 u9, ρ = [.va (encW w), .va (nT gs), .va (nL first), u3, .ow (nL (grownFrom w gs first)), u5, u6, u7, u8, u9])
    (run_while (fun n ρ => ∃ (kn fnd left : List Nat) (u6 u8 u9 : Sl), noOw u6 = true ∧ noOw u8 = true ∧ noOw u9 = true ∧ left.length < n ∧ (∀ g ∈ left, g < w.gs.length) ∧ kn.length + 2 * left.length ≤ 1200 ∧ fnd.length + left.length ≤ 100 ∧ grownLoop w n kn fnd left = grownFrom w gs first ∧
      ρ = [.va (encW w), .va (nT gs), .va (nL first), .ow (seenD kn), .ow (nL fnd), .va (nL left), u6, .va (nL (nextTo w left kn)), u8, u9]) (gs.length + 1) ⟨first.foldl put [], [], gs, .un, .un, .un, rfl, rfl, rfl, Nat.lt_succ_self _, hg, ?_, by simpa using hz, rfl, rfl⟩ ?_) ?_
  · simp at hk0; omega
  · rintro n _ ⟨kn, fnd, left, u6, u8, u9, o6, o8, o9, h1, h2, h3, h4, h5, rfl⟩
    obtain ⟨f, rfl⟩ : ∃ f, n = f + 1 := ⟨n - 1, by omega⟩
    rw [grownLoop] at h5
    refine ⟨!(nextTo w left kn).isEmpty, _, EvT.is (et_test (ev_op (ev_var rfl) (EvD.fz (ev_lst (xs := []) ea_nil (by simp))) (opv_ne_nil (eqOk_nL _)))) ?_, fun hb => ?_, fun hb => ?_⟩
    · cases nextTo w left kn <;> rfl
    · cases hn : nextTo w left kn with
      | nil => rw [hn] at hb; cases hb
      | cons g rest =>
        rw [hn] at h5
        simp only at h5
        have hgm : g ∈ left := by
          have : g ∈ nextTo w left kn := by rw [hn]; simp
          exact (List.mem_filter.mp this).1
        have hgl := h2 g hgm
        refine run_seq1 (run_set (ev_ixL (ev_var rfl) (ev_c fun _ => .int _) (d := nD g) (atI_nat (j := 0) rfl)) rfl) ?_
        refine run_seq1 (run_drop (ev_append rfl (ev_var rfl) rfl (by rw [List.length_map]; omega)) rfl) ?_
        refine run_seq (fun ρ => ∃ u6, noOw u6 = true ∧ ρ = [.va (encW w), .va (nT gs), .va (nL first), .ow (seenD (put (put kn (w.g g).1) (w.g g).2)), .ow (nL (fnd ++ [g])), .va (nL left), u6, .va (nL (g :: rest)), .va (nD g), u9])
          (run_forP [(w.g g).1, (w.g g).2] nD (fun pre ρ => ∃ u6, noOw u6 = true ∧ ρ = [.va (encW w), .va (nT gs), .va (nL first), .ow (seenD (pre.foldl put kn)), .ow (nL (fnd ++ [g])), .va (nL left), u6, .va (nL (g :: rest)), .va (nD g), u9]) (ei_tup (ev_wg rfl (ev_var rfl) hgl)) ⟨u6, o6, ?_⟩ ?_ fun _ h => h) ?_
        · simp only [nL, List.map_append]; rfl
        · rintro pre x post _ e ⟨v6, _, rfl⟩
          have hp : pre.length ≤ 2 := by have := congrArg List.length e; simp at this; omega
          have hb := fl pre kn
          refine ⟨_, _, eg_name 6, run_seen (ev_c fun _ => .bl _) rfl (ev_var rfl) (by omega) ⟨.va (nD x), rfl, ?_⟩⟩
          rw [List.foldl_append] <;> rfl
        · rintro _ ⟨v6, o6', rfl⟩
          refine run_seq1 (run_set (EvD.fz (ev_lcP left nD (fun h => !decide (h = g)) nD (fun x => [.va (encW w), .va (nT gs), .va (nL first), .ow (seenD (put (put kn (w.g g).1) (w.g g).2)), .ow (nL (fnd ++ [g])), .va (nL left), v6, .va (nL (g :: rest)), .va (nD g), .va (nD x)]) (ei_list (ev_var rfl)) (by omega) rfl (fun x _ => eg_name 9) (fun x hx => EvT.is (et_test (ev_op (ev_var rfl) (ev_var rfl) opv_neI)) ?_) (fun x _ _ => (ev_var rfl)) (fun _ _ => rfl) (by simp))) rfl) ?_
          · congr 1
            exact decide_eq_decide.mpr (by omega)
          · have hlt : (left.filter fun h => !decide (h = g)).length < left.length := by
              refine Nat.lt_of_le_of_ne (List.length_filter_le _ _) fun e => ?_
              have := List.filter_eq_self.mp (List.filter_sublist.eq_of_length e) g hgm
              simp at this
            have hsub : ∀ x ∈ left.filter fun h => !decide (h = g), x < w.gs.length := fun x hx => h2 x (List.mem_filter.mp hx).1
            refine run_set (nxt hsub (by omega) o6' rfl rfl rfl) ⟨f, Nat.lt_succ_self f, _, _, _, v6, _, _, o6', rfl, rfl, by omega, hsub, ?_, ?_, h5, rfl⟩
            · have a1 := put_length kn (w.g g).1
              have a2 := put_length (put kn (w.g g).1) (w.g g).2
              omega
            · rw [List.length_append, List.length_singleton]; omega
    · cases hn : nextTo w left kn with
      | nil =>
        rw [hn] at h5
        simp only at h5
        subst h5
        exact ⟨_, _, _, _, _, _, rfl⟩
      | cons g rest => rw [hn] at hb; simp at hb
  · rintro _ ⟨u3, u5, u6, u7, u8, u9, rfl⟩
    exact run_ret (EvD.frz (i := 4) rfl (ev_var rfl)) rfl
def r_seated_round (ds : List D) (r : Option D) : Prop := ∃ (w : Web) (way : Way), way ≠ [] ∧ (∀ e ∈ way, e.1 < w.gs.length) ∧ way.length ≤ 1000 ∧ ds = [encW w, encGs way] ∧ r = some (nL (seatedRound w way))
theorem cal_seated_round (T : Txt K mg C) (Dx : DefAt K mg "seated_round" s_seated_round f fd)  : CalD P w K mg base 1 "seated_round" ["web", "way"] (spD C 2 r_seated_round) := by
  refine mkCal Dx sc_seated_round bd_seated_round (by decide) fun f cdv A outer s H E hr => have hu := hu_of hr; ⟨_, (pss_cons (ps_asg (pe_ix (ixT K) (pv 1) pe_int (fun _ _ => rfl)) (pgT K (n := 2) (pgs_cons (pg_name (i := 2) sc_seated_round.nd rfl (Or.inl rfl)) (pgs_cons (pg_name (i := 3) sc_seated_round.nd rfl (Or.inl rfl)) pgs_nil))))
      (pss_cons (ps_if (pt_cmpR op_eq (pe_ix (ixT K) (pe_ix (ixT K) (pe_ix (ixT K) (pv 0) pe_int (fun _ _ => rfl)) (pv 2) (fun _ _ => rfl)) pe_int (fun _ _ => rfl)) (pv 3) (nomark _)) (pss_one (ps_ret (pe_op op_cat (pe_lst (pa_cons (pv 2) pa_nil)) (pe_lc (own := [("guest", 4), ("_", 5)]) rfl sc_seated_round.nd (piT K (pe_back K (pv 1))) (blkOk_by rfl) (fun _ _ _ _ _ => (pgT K (n := 2) (pgs_cons (pg_name (i := 4) sc_seated_round.nd rfl (Or.inl rfl)) (pgs_cons (pg_name (i := 5) sc_seated_round.nd rfl (Or.inl rfl)) pgs_nil)))) (fun _ _ _ _ _ => pts_nil) (fun _ _ _ _ _ => (pv 4)))))) pss_nil)
      (pss_one (ps_ret (pe_lc (own := [("guest", 4), ("_", 5)]) rfl sc_seated_round.nd (piT K (pv 1)) (blkOk_by rfl) (fun _ _ _ _ _ => (pgT K (n := 2) (pgs_cons (pg_name (i := 4) sc_seated_round.nd rfl (Or.inl rfl)) (pgs_cons (pg_name (i := 5) sc_seated_round.nd rfl (Or.inl rfl)) pgs_nil)))) (fun _ _ _ _ _ => pts_nil) (fun _ _ _ _ _ => (pv 4))))))), ?_⟩
  rintro ds r _ ⟨w, way, hne, hw, hz, rfl, rfl⟩
  show Run C E _ [.va (encW w), .va (encGs way), .un, .un, .un, .un] _
  cases way with
  | nil => exact absurd rfl hne
  | cons e rest =>
    obtain ⟨g, p⟩ := e
    have hg : g < w.gs.length := hw (g, p) (by simp)
    have hz' : rest.length ≤ 1000 := by simp at hz; omega
    refine run_seq1 (run_asg (ev_ixT (ev_var rfl) (ev_c fun _ => .int _) (d := encP (g, p)) (atI_nat (j := 0) rfl)) (eg_tup (egs_name (egs_name egs_nil)) rfl) rfl) ?_
    have sr : seatedRound w ((g, p) :: rest) = if (w.g g).1 = p then g :: (rest.reverse.map (·.1)) else ((g, p) :: rest).map (·.1) := rfl
    rw [sr]
    refine run_seq (fun ρ => ¬ (w.g g).1 = p ∧ ρ = [.va (encW w), .va (encGs ((g, p) :: rest)), .va (nD g), .va (nD p), .un, .un]) (run_if (et_test (ev_op (ev_wg0 rfl (ev_var rfl) hg) (ev_var rfl) opv_eqI)) (fun hb => ?_) fun hb => run_next ⟨?_, rfl⟩) ?_
    · have h : (w.g g).1 = p := by have z : ((w.g g).1 : Int) = (p : Int) := of_decide_eq_true hb; omega
      rw [if_pos h]
      have hb2 : EvD (tBack K (tVar 1)) [.va (encW w), .va (encGs ((g, p) :: rest)), .va (nD g), .va (nD p), .un, .un] [.va (encW w), .va (encGs ((g, p) :: rest)), .va (nD g), .va (nD p), .un, .un] (.va (.tup (rest.reverse.map encP))) := by
        have z := ev_back (K := K) (ρ := [.va (encW w), .va (encGs ((g, p) :: rest)), .va (nD g), .va (nD p), .un, .un]) (te := tVar 1) (ds := ((g, p) :: rest).map encP) (ev_var rfl)
        rw [List.map_cons, List.drop_one, List.tail_cons, ← List.map_reverse] at z
        exact z
      refine run_ret (EvD.is (EvD.fz (ev_opO (EvD.fz (ev_lst (xs := [_]) (ea_cons (ev_var rfl) ea_nil) (by simp))) (EvD.fz (ev_lcM rest.reverse encP (fun e => nD e.1) (fun e => [.va (encW w), .va (encGs ((g, p) :: rest)), .va (nD g), .va (nD p), .va (nD e.1), .va (nD e.2)]) (ei_tup hb2) (by simp; omega) rfl (fun x _ => eg_tup (egs_name (egs_name egs_nil)) rfl) (fun x hx => (ev_var rfl)) (fun _ _ => rfl) (by simp))) (opo_cat (by simp; omega)))) ?_) rfl
      simp only [nL, List.map_cons, List.map_map]; rfl
    · intro h; rw [h] at hb; simp at hb
    · rintro _ ⟨h, rfl⟩
      rw [if_neg h]
      refine run_ret (EvD.is (EvD.fz (ev_lcM ((g, p) :: rest) encP (fun e => nD e.1) (fun e => [.va (encW w), .va (encGs ((g, p) :: rest)), .va (nD g), .va (nD p), .va (nD e.1), .va (nD e.2)]) (ei_tup (ev_var rfl)) (by simp; omega) rfl (fun x _ => eg_tup (egs_name (egs_name egs_nil)) rfl) (fun x hx => (ev_var rfl)) (fun _ _ => rfl) (by simp))) ?_) rfl
      simp only [nL, List.map_map]; rfl
def r_kept_in (ds : List D) (r : Option D) : Prop := ∃ (w : Web) (o p fr : List Nat), w.Ok ∧ (∀ g ∈ o, g < w.gs.length) ∧ o.length ≤ 100 ∧ p.length ≤ 1000 ∧ (isTree w o p = false → (roundOf w o p).isSome = true) ∧ ds = [encW w, nT o, nT p, nL fr] ∧ r = some (nL (keptIn w o p fr))
theorem cal_kept_in (T : Txt K mg C) (Dx : DefAt K mg "kept_in" s_kept_in f fd) (c_grown_from : CalD P w K mg base 2 "grown_from" ["web", "guests", "first"] (spD C 3 r_grown_from)) (c_guests_in : CalD P w K mg base 1 "guests_in" ["web", "lot", "part"] (spD C 3 r_guests_in)) (c_is_tree_in : CalD P w K mg base 2 "is_tree_in" ["web", "others", "part"] (spD C 3 r_is_tree_in)) (c_round_of : CalD P w K mg base 2 "round_of" ["web", "lot", "part"] (spD C 3 r_round_of)) (c_seated_round : CalD P w K mg base 1 "seated_round" ["web", "way"] (spD C 2 r_seated_round)) : CalD P w K mg base 3 "kept_in" ["web", "others", "part", "frees"] (spD C 4 r_kept_in) := by
  refine mkCal Dx sc_kept_in bd_kept_in (by decide) fun f cdv A outer s H E hr => have hu := hu_of hr; ⟨_, (pss_cons (ps_set (i := 4) sc_kept_in.nd rfl (Or.inl rfl) (pe_d c_guests_in hr (by decide) (by rfl) (pa_cons (pv 0) (pa_cons (pv 1) (pa_cons (pv 2) pa_nil)))))
      (pss_cons (ps_if (pt_val (pe_d c_is_tree_in hr (by decide) (by rfl) (pa_cons (pv 0) (pa_cons (pv 1) (pa_cons (pv 2) pa_nil))))) (pss_one (ps_ret (pe_d c_grown_from hr (by decide) (by rfl) (pa_cons (pv 0) (pa_cons (pv 4) (pa_cons (pe_lc (own := [("place", 5)]) rfl sc_kept_in.nd (piT K (pv 2)) (blkOk_by rfl) (fun _ _ _ _ _ => (pg_name (i := 5) sc_kept_in.nd rfl (Or.inl rfl))) (fun _ _ _ _ _ => (pts_one (pt_cmpR (opIn K) (pv 5) (pv 3) rfl))) (fun _ _ _ _ _ => (pv 5))) pa_nil)))))) pss_nil)
      (pss_cons (ps_set (i := 6) sc_kept_in.nd rfl (Or.inl rfl) (pe_d c_round_of hr (by decide) (by rfl) (pa_cons (pv 0) (pa_cons (pv 1) (pa_cons (pv 2) pa_nil)))))
      (pss_cons (ps_set (i := 7) sc_kept_in.nd rfl (Or.inr rfl) (pe_d c_seated_round hr (by decide) (by rfl) (pa_cons (pv 0) (pa_cons (pv 6) pa_nil))))
      (pss_cons (ps_set (i := 8) sc_kept_in.nd rfl (Or.inl rfl) (pe_callTy (crTup K) (by rfl) T.tuple (by decide +kernel) (pa_cons (pe_lc (own := [("guest", 9)]) rfl sc_kept_in.nd (piT K (pv 4)) (blkOk_by rfl) (fun _ _ _ _ _ => (pg_name (i := 9) sc_kept_in.nd rfl (Or.inl rfl))) (fun _ _ _ _ _ => (pts_one (pt_cmpR (opNi K) (pv 9) (pv 7) rfl))) (fun _ _ _ _ _ => (pv 9))) pa_nil)))
      (pss_one (ps_ret (pe_op op_cat (pv 7) (pe_d c_grown_from hr (by decide) (by rfl) (pa_cons (pv 0) (pa_cons (pv 8) (pa_cons (pe_lc (own := [("place", 5), ("_", 10)]) rfl sc_kept_in.nd (piT K (pv 6)) (blkOk_by rfl) (fun _ _ _ _ _ => (pgT K (n := 2) (pgs_cons (pg_name (i := 10) sc_kept_in.nd rfl (Or.inl rfl)) (pgs_cons (pg_name (i := 5) sc_kept_in.nd rfl (Or.inl rfl)) pgs_nil)))) (fun _ _ _ _ _ => pts_nil) (fun _ _ _ _ _ => (pv 5))) pa_nil)))))))))))), ?_⟩
  rintro ds r _ ⟨w, o, p, fr, hw, ho, hz, hp, hr, rfl, rfl⟩
  show Run C E _ [.va (encW w), .va (nT o), .va (nT p), .va (nL fr), .un, .un, .un, .un, .un, .un, .un] _
  have hs := hw.small
  have hgl : ∀ g ∈ guestsIn w o p, g < w.gs.length := fun g hg => ho g (List.mem_filter.mp hg).1
  have hgz := guests_len w o p
  refine run_seq1 (run_set (ev_callD (ds := [_, _, _]) (ea_cons (ev_var rfl) (ea_cons (ev_var rfl) (ea_cons (ev_var rfl) ea_nil))) ⟨w, o, p, ho, hz, rfl, rfl⟩ rfl) rfl) ?_
  refine run_seq (fun ρ => isTree w o p = false ∧ ρ = [.va (encW w), .va (nT o), .va (nT p), .va (nL fr), .va (nT (guestsIn w o p)), .un, .un, .un, .un, .un, .un]) (run_if (et_test (ev_callD (ds := [_, _, _]) (ea_cons (ev_var rfl) (ea_cons (ev_var rfl) (ea_cons (ev_var rfl) ea_nil))) ⟨w, o, p, ho, hz, rfl, rfl⟩ rfl)) (fun hb => ?_) fun hb => run_next ⟨hb, rfl⟩) ?_
  · refine run_ret (ev_callD (ds := [_, _, _]) (ea_cons (ev_var rfl) (ea_cons (ev_var rfl) (ea_cons (EvD.fz (ev_lcP p nD (fun x => decide (x ∈ fr)) nD (fun x => [.va (encW w), .va (nT o), .va (nT p), .va (nL fr), .va (nT (guestsIn w o p)), .va (nD x), .un, .un, .un, .un, .un]) (ei_tup (ev_var rfl)) (by omega) rfl (fun x _ => eg_name 5) (fun x hx => et_test (ev_op (ev_var rfl) (ev_var rfl) opv_in_nL)) (fun x _ _ => (ev_var rfl)) (fun _ _ => rfl) (by simp))) ea_nil))) ⟨w, guestsIn w o p, p.filter fun p => decide (p ∈ fr), hw, hgl, by omega, ?_, rfl, rfl⟩ rfl) ?_
    · exact Nat.le_trans (List.length_filter_le _ _) hp
    · show some _ = some _
      unfold keptIn
      rw [if_pos hb]
  · rintro _ ⟨hb, rfl⟩
    obtain ⟨way, hway⟩ := Option.isSome_iff_exists.mp (hr hb)
    obtain ⟨w1, w2, w3⟩ := roundOf_ok hway
    have hk : keptIn w o p fr = seatedRound w way ++ grownFrom w ((guestsIn w o p).filter fun g => !decide (g ∈ seatedRound w way)) (way.map (·.2)) := by
      unfold keptIn
      rw [if_neg (by rw [hb]; exact Bool.false_ne_true), hway] <;> rfl
    rw [hk]
    have hround : r_round_of [encW w, nT o, nT p] (some (encGs way)) := ⟨w, o, p, hw, ho, hz, rfl, by rw [hway]⟩
    refine run_seq1 (run_set (ev_callD (ds := [_, _, _]) (ea_cons (ev_var rfl) (ea_cons (ev_var rfl) (ea_cons (ev_var rfl) ea_nil))) hround rfl) rfl) ?_
    refine run_seq1 (run_set (ev_callD (ds := [_, _]) (ea_cons (ev_var rfl) (ea_cons (ev_var rfl) ea_nil)) ⟨w, way, w1, fun e he => ho _ (w2 e he), by omega, rfl, rfl⟩ rfl) rfl) ?_
    refine run_seq1 (run_set (ev_tupL (ev_lcP (guestsIn w o p) nD (fun g => !decide (g ∈ seatedRound w way)) nD (fun x => [.va (encW w), .va (nT o), .va (nT p), .va (nL fr), .va (nT (guestsIn w o p)), .un, .va (encGs way), .va (nL (seatedRound w way)), .un, .va (nD x), .un]) (ei_tup (ev_var rfl)) (by omega) rfl (fun x _ => eg_name 9) (fun x hx => et_test (ev_op (ev_var rfl) (ev_var rfl) opv_ni_nL)) (fun x _ _ => (ev_var rfl)) (fun _ _ => rfl) (by simp))) rfl) ?_
    have hrest : ∀ g ∈ (guestsIn w o p).filter fun g => !decide (g ∈ seatedRound w way), g < w.gs.length := fun g hg => hgl g (List.mem_filter.mp hg).1
    have hrz := List.length_filter_le (fun g => !decide (g ∈ seatedRound w way)) (guestsIn w o p)
    have hgr := grownFrom_len w ((guestsIn w o p).filter fun g => !decide (g ∈ seatedRound w way)) (way.map (·.2))
    have hsl := seated_len w way
    have hcall : r_grown_from [encW w, nT ((guestsIn w o p).filter fun g => !decide (g ∈ seatedRound w way)), .lst (way.map fun e => nD e.2)] (some (nL (grownFrom w ((guestsIn w o p).filter fun g => !decide (g ∈ seatedRound w way)) (way.map (·.2))))) :=
      ⟨w, _, way.map (·.2), hw, hrest, by omega, by rw [List.length_map]; omega, by simp only [nL, List.map_map]; rfl, rfl⟩
    refine run_ret (EvD.is (EvD.fz (ev_opO (ev_var rfl) (ev_callD (ds := [_, _, _]) (ea_cons (ev_var rfl) (ea_cons (ev_var rfl) (ea_cons (EvD.fz (ev_lcM way encP (fun e => nD e.2) (fun e => [.va (encW w), .va (nT o), .va (nT p), .va (nL fr), .va (nT (guestsIn w o p)), .va (nD e.2), .va (encGs way), .va (nL (seatedRound w way)), .va (nT ((guestsIn w o p).filter fun g => !decide (g ∈ seatedRound w way))), .un, .va (nD e.1)]) (ei_tup (ev_var rfl)) (by omega) rfl (fun x _ => eg_tup (egs_name (egs_name egs_nil)) rfl) (fun x hx => (ev_var rfl)) (fun _ _ => rfl) (by simp))) ea_nil))) hcall rfl) (opo_cat (by rw [List.length_map, List.length_map]; omega)))) ?_) rfl
    simp only [nL, List.map_append]
def r_order_by (ds : List D) (r : Option D) : Prop := ∃ (w : Web) (l fr : List Nat), w.Ok ∧ Lot w l ∧ Rnd w (othersIn w l) ∧ ds = [encW w, nT l, nL fr] ∧ r = some (nT (orderBy w l fr))
theorem cal_order_by (T : Txt K mg C) (Dx : DefAt K mg "order_by" s_order_by f fd) (c_kept_in : CalD P w K mg base 3 "kept_in" ["web", "others", "part", "frees"] (spD C 4 r_kept_in)) (c_others_in : CalD P w K mg base 1 "others_in" ["web", "lot"] (spD C 2 r_others_in)) (c_parts_in : CalD P w K mg base 2 "parts_in" ["web", "lot"] (spD C 2 r_parts_in)) : CalD P w K mg base 4 "order_by" ["web", "lot", "frees"] (spD C 3 r_order_by) := by
  refine mkCal Dx sc_order_by bd_order_by (by decide) fun f cdv A outer s H E hr => have hu := hu_of hr; ⟨_, (pss_cons (ps_par (i := 3) (j := 4) rfl sc_order_by.nd rfl rfl (by decide) rfl rfl (pa_cons (pe_d c_others_in hr (by decide) (by rfl) (pa_cons (pv 0) (pa_cons (pv 1) pa_nil))) (pa_cons (pe_lst pa_nil) pa_nil)) (by rfl))
      (pss_cons (ps_for PassesOwn.never rfl (piL K (pe_d c_parts_in hr (by decide) (by rfl) (pa_cons (pv 0) (pa_cons (pv 3) pa_nil)))) (pg_name (i := 5) sc_order_by.nd rfl (Or.inl rfl)) (pss_one (ps_expr (bmL K PySem.F.slot_list_extend PySem.F.type_list_extend mt_extend (pv 4) (pa_cons (pe_d c_kept_in hr (by decide) (by rfl) (pa_cons (pv 0) (pa_cons (pv 3) (pa_cons (pv 5) (pa_cons (pv 2) pa_nil))))) pa_nil)))))
      (pss_one (ps_ret (pe_op (opCatT K) (pe_callTy (crTup K) (by rfl) T.tuple (by decide +kernel) (pa_cons (pv 4) pa_nil)) (pv 1)))))), ?_⟩
  rintro ds r _ ⟨w, l, fr, hw, hl, hr, rfl, rfl⟩
  show Run C E _ [.va (encW w), .va (nT l), .va (nL fr), .un, .un, .un] _
  have hlz := lot_len hw hl
  obtain ⟨p1, p2⟩ := partsIn_ok hw (lot := othersIn w l) others_lt
  have oz := others_len hw (l := l)
  refine run_seq1 (run_par (ea_cons (ev_callD (ds := [_, _]) (ea_cons (ev_var rfl) (ea_cons (ev_var rfl) ea_nil)) ⟨w, l, hw, rfl, rfl⟩ rfl) (ea_cons (ev_lst (xs := []) ea_nil (by simp)) ea_nil)) rfl (by decide)) ?_
  refine run_seq (fun ρ => ∃ u5, ρ = [.va (encW w), .va (nT l), .va (nL fr), .va (nT (othersIn w l)), .ow (nL ((partsIn w (othersIn w l)).flatMap fun part => keptIn w (othersIn w l) part fr)), u5])
    (run_forP (partsIn w (othersIn w l)) nT (fun pre ρ => ∃ u5, noOw u5 = true ∧ ρ = [.va (encW w), .va (nT l), .va (nL fr), .va (nT (othersIn w l)), .ow (nL (pre.flatMap fun part => keptIn w (othersIn w l) part fr)), u5])
      (EvI.hide (d := .lst []) 4 rfl rfl (ei_list (ev_callD (ds := [_, _]) (ea_cons (ev_var rfl) (ea_cons (ev_var rfl) ea_nil)) ⟨w, _, hw, others_lt, oz, rfl, rfl⟩ rfl))) ⟨.un, rfl, rfl⟩ ?_ fun ρ2 ⟨u5, _, h⟩ => ⟨u5, h⟩) ?_
  · rintro pre part post _ e ⟨u5, o5, rfl⟩
    have hm : part ∈ partsIn w (othersIn w l) := by rw [e]; simp
    have hpl : pre.length ≤ 100 := by have := congrArg List.length e; simp at this; omega
    have hfl := flat_len (f := fun part => keptIn w (othersIn w l) part fr) (k := 300) (l := pre) fun _ _ => kept_len hw oz
    have hkl := kept_len hw (p := part) (fr := fr) oz
    refine ⟨_, _, eg_name 5, run_drop (ev_extend rfl (EvD.hide (d := nL (pre.flatMap fun part => keptIn w (othersIn w l) part fr)) 4 rfl rfl (ev_callD (ds := [_, _, _, _]) (ea_cons (ev_var rfl) (ea_cons (ev_var rfl) (ea_cons (ev_var rfl) (ea_cons (ev_var rfl) ea_nil)))) ⟨w, _, part, fr, hw, others_lt, oz, by have := (p2 part hm).2.2.1; omega, hr part hm, rfl, rfl⟩ rfl)) rfl (by rw [List.length_map, List.length_map]; omega)) ⟨.va (nT part), rfl, ?_⟩⟩
    simp only [nL, List.flatMap_append, List.map_append, List.flatMap_cons, List.flatMap_nil, List.append_nil]
    rfl
  · rintro _ ⟨u5, rfl⟩
    have hfl := flat_len (f := fun part => keptIn w (othersIn w l) part fr) (k := 300) (l := partsIn w (othersIn w l)) fun _ _ => kept_len hw oz
    refine run_ret (EvD.is (EvD.frz (i := 4) rfl (ev_op (ev_tupLv (ev_var rfl)) (ev_var rfl) (opv_catT (by rw [List.length_map, List.length_map]; omega)))) ?_) rfl
    unfold orderBy
    simp only [nT, List.map_append]
def r_trees_of (ds : List D) (r : Option D) : Prop := ∃ (w : Web) (o : List Nat), w.Ok ∧ (∀ g ∈ o, g < w.gs.length) ∧ o.length ≤ 100 ∧ ds = [encW w, nT o] ∧ r = some (.lst ((treesOf w o).map nT))
theorem cal_trees_of (T : Txt K mg C) (Dx : DefAt K mg "trees_of" s_trees_of f fd) (c_is_tree_in : CalD P w K mg base 2 "is_tree_in" ["web", "others", "part"] (spD C 3 r_is_tree_in)) (c_parts_in : CalD P w K mg base 2 "parts_in" ["web", "lot"] (spD C 2 r_parts_in)) : CalD P w K mg base 3 "trees_of" ["web", "others"] (spD C 2 r_trees_of) := by
  refine mkCal Dx sc_trees_of bd_trees_of (by decide) fun f cdv A outer s H E hr => have hu := hu_of hr; ⟨_, (pss_one (ps_ret (pe_lc (own := [("part", 2)]) rfl sc_trees_of.nd (piL K (pe_d c_parts_in hr (by decide) (by rfl) (pa_cons (pv 0) (pa_cons (pv 1) pa_nil)))) (blkOk_by rfl) (fun _ _ _ _ _ => (pg_name (i := 2) sc_trees_of.nd rfl (Or.inl rfl))) (fun _ _ _ _ _ => (pts_one (pt_val (pe_d c_is_tree_in hr (by decide) (by rfl) (pa_cons (pv 0) (pa_cons (pv 1) (pa_cons (pv 2) pa_nil))))))) (fun _ _ _ _ _ => (pv 2))))), ?_⟩
  rintro ds r _ ⟨w, o, hw, ho, hz, rfl, rfl⟩
  show Run C E _ [.va (encW w), .va (nT o), .un] _
  obtain ⟨p1, p2⟩ := partsIn_ok hw ho
  refine run_ret (EvD.fz (ev_lcP (partsIn w o) nT (isTree w o) nT (fun p => [.va (encW w), .va (nT o), .va (nT p)]) (ei_list (ev_callD (ds := [_, _]) (ea_cons (ev_var rfl) (ea_cons (ev_var rfl) ea_nil)) ⟨w, _, hw, ho, hz, rfl, rfl⟩ rfl)) (by omega) rfl (fun x _ => eg_name 2) (fun x hx => ?_) (fun x _ _ => (ev_var rfl)) (fun _ _ => rfl) (by simp))) rfl
  exact et_test (ev_callD (ds := [_, _, _]) (ea_cons (ev_var rfl) (ea_cons (ev_var rfl) (ea_cons (ev_var rfl) ea_nil))) ⟨w, o, x, ho, hz, rfl, rfl⟩ rfl)

theorem trees_spare {w : Web} {l : List Nat} (h : badIn w l = []) : ∀ part ∈ treesOf w (othersIn w l), ∃ p rest, (part.filter fun p => decide (p ∈ spareIn w l)) = p :: rest := fun part hp => by
  unfold treesOf at hp
  obtain ⟨h1, h2⟩ := List.mem_filter.mp hp
  cases e : part.filter fun p => decide (p ∈ spareIn w l) with
  | cons p rest => exact ⟨p, rest, rfl⟩
  | nil =>
    have hb : part ∈ badIn w l := by
      unfold badIn
      refine List.mem_filter.mpr ⟨h1, ?_⟩
      unfold isBad
      rw [if_pos h2]
      have : hasAny part (spareIn w l) = false := by
        unfold hasAny
        rw [List.any_eq_false]
        intro x hx hc
        have hxm : x ∈ part.filter fun p => decide (p ∈ spareIn w l) := List.mem_filter.mpr ⟨hx, hc⟩
        rw [e] at hxm
        cases hxm
      rw [this] <;> rfl
    rw [h] at hb; cases hb
theorem trees_len {w : Web} (hw : w.Ok) {o : List Nat} (ho : ∀ g ∈ o, g < w.gs.length) : (treesOf w o).length ≤ 100 ∧ ∀ part ∈ treesOf w o, part.length ≤ 100 := by
  obtain ⟨p1, p2⟩ := partsIn_ok hw ho
  exact ⟨Nat.le_trans (List.length_filter_le _ _) p1, fun part hp => (p2 part (List.mem_filter.mp hp).1).2.2.1⟩

def r_order_in_lot (ds : List D) (r : Option D) : Prop := ∃ (w : Web) (l : List Nat), w.Ok ∧ Lot w l ∧ Rnd w (othersIn w l) ∧ badIn w l = [] ∧ ds = [encW w, nT l] ∧ r = some (nT (orderInLot w l))
theorem cal_order_in_lot (T : Txt K mg C) (Dx : DefAt K mg "order_in_lot" s_order_in_lot f fd) (c_order_by : CalD P w K mg base 4 "order_by" ["web", "lot", "frees"] (spD C 3 r_order_by)) (c_others_in : CalD P w K mg base 1 "others_in" ["web", "lot"] (spD C 2 r_others_in)) (c_spare_in : CalD P w K mg base 2 "spare_in" ["web", "lot"] (spD C 2 r_spare_in)) (c_trees_of : CalD P w K mg base 3 "trees_of" ["web", "others"] (spD C 2 r_trees_of)) : CalD P w K mg base 5 "order_in_lot" ["web", "lot"] (spD C 2 r_order_in_lot) := by
  refine mkCal Dx sc_order_in_lot bd_order_in_lot (by decide) fun f cdv A outer s H E hr => have hu := hu_of hr; ⟨_, (pss_cons (ps_set (i := 2) sc_order_in_lot.nd rfl (Or.inr rfl) (pe_d c_spare_in hr (by decide) (by rfl) (pa_cons (pv 0) (pa_cons (pv 1) pa_nil))))
      (pss_cons (ps_setLc (i := 3) rfl sc_order_in_lot.nd rfl rfl (sw_true rfl rfl rfl (by decide +kernel)) (own := [("part", 5)]) (piL K (pe_d c_trees_of hr (by decide) (by rfl) (pa_cons (pv 0) (pa_cons (pe_d c_others_in hr (by decide) (by rfl) (pa_cons (pv 0) (pa_cons (pv 1) pa_nil))) pa_nil)))) (blkOk_by rfl) (fun _ _ _ _ _ => (pg_name (i := 5) sc_order_in_lot.nd rfl (Or.inl rfl))) (fun _ _ _ _ _ => pts_nil) (fun _ _ _ _ _ => (pe_ix (ixL K) (pe_lc (own := [("place", 4)]) rfl sc_order_in_lot.nd (piT K (pv 5)) (blkOk_by rfl) (fun _ _ _ _ _ => (pg_name (i := 4) sc_order_in_lot.nd rfl (Or.inl rfl))) (fun _ _ _ _ _ => (pts_one (pt_cmpR (opIn K) (pv 4) (pv 2) rfl))) (fun _ _ _ _ _ => (pv 4))) pe_int (fun _ _ => rfl))))
      (pss_one (ps_ret (pe_d c_order_by hr (by decide) (by rfl) (pa_cons (pv 0) (pa_cons (pv 1) (pa_cons (pv 3) pa_nil)))))))), ?_⟩
  rintro ds r _ ⟨w, l, hw, hl, hr, hb, rfl, rfl⟩
  show Run C E _ [.va (encW w), .va (nT l), .un, .un, .un, .un] _
  have hlz := lot_len hw hl
  have hts := trees_spare hb
  obtain ⟨t1, t2⟩ := trees_len hw (o := othersIn w l) others_lt
  refine run_seq1 (run_set (ev_callD (ds := [_, _]) (ea_cons (ev_var rfl) (ea_cons (ev_var rfl) ea_nil)) ⟨w, l, hw, hl.lt, hlz, rfl, rfl⟩ rfl) rfl) ?_
  refine run_seq1 (run_set (EvD.fz (ev_lcM (treesOf w (othersIn w l)) nT (fun part => nD ((part.filter fun p => decide (p ∈ spareIn w l)).headD 0)) (fun p => [.va (encW w), .va (nT l), .va (nL (spareIn w l)), .un, .un, .va (nT p)])
    (ei_list (ev_callD (ds := [_, _]) (ea_cons (ev_var rfl) (ea_cons (ev_callD (ds := [_, _]) (ea_cons (ev_var rfl) (ea_cons (ev_var rfl) ea_nil)) ⟨w, l, hw, rfl, rfl⟩ rfl) ea_nil)) ⟨w, _, hw, others_lt, others_len hw, rfl, rfl⟩ rfl)) (by omega) rfl (fun x _ => eg_name 5) (fun x hx => ?_) (fun _ _ => rfl) (by simp))) rfl) ?_
  · obtain ⟨p, rest, e⟩ := hts x hx
    have hz := t2 x hx
    refine ev_ixL (ds := (p :: rest).map nD) (EvD.is (EvD.fz (ev_lcP x nD (fun p => decide (p ∈ spareIn w l)) nD (fun q => [.va (encW w), .va (nT l), .va (nL (spareIn w l)), .un, .va (nD q), .va (nT x)]) (ei_tup (ev_var rfl)) (by omega) rfl (fun x _ => eg_name 4) (fun x hx => et_test (ev_op (ev_var rfl) (ev_var rfl) opv_in_nL)) (fun x _ _ => (ev_var rfl)) (fun _ _ => rfl) (by simp))) (by rw [e])) (ev_c fun _ => .int _) ?_
    rw [e]
    exact atI_nat (j := 0) rfl
  · have hcall : r_order_by [encW w, nT l, .lst ((treesOf w (othersIn w l)).map fun part => nD ((part.filter fun p => decide (p ∈ spareIn w l)).headD 0))] (some (nT (orderInLot w l))) :=
      ⟨w, l, freesOf w l, hw, hl, hr, by unfold freesOf; simp only [nL, List.map_map]; rfl, rfl⟩
    exact run_ret (ev_callD (ds := [_, _, _]) (ea_cons (ev_var rfl) (ea_cons (ev_var rfl) (ea_cons (ev_var rfl) ea_nil))) hcall rfl) rfl
end
end K17
end

section
set_option maxRecDepth 100000
set_option maxHeartbeats 4000000
namespace K17
open PySem PySem.Spec PyProof.Rows L2 DL MN
section
variable {P : Program} {w : World} {K : PySem.W.Frag} {mg : Str → Option Value} {base : Heap} {C : Addr} {f : Addr} {fd : FuncData}

def r_sure_free (ds : List D) (r : Option D) : Prop := ∃ (w : Web) (l : List Nat), w.Ok ∧ (∀ g ∈ l, g < w.gs.length) ∧ l.length ≤ 100 ∧ ds = [encW w, nT l] ∧ r = (if (badIn w l).isEmpty = true then some .non else none)
theorem cal_sure_free (T : Txt K mg C) (Dx : DefAt K mg "sure_free" s_sure_free f fd) (c_bad_in : CalD P w K mg base 4 "bad_in" ["web", "lot"] (spD C 2 r_bad_in)) : CalD P w K mg base 5 "sure_free" ["web", "lot"] (spD C 2 r_sure_free) := by
  refine mkCalX Dx sc_sure_free bd_sure_free (by decide) fun f cdv A outer s H E hr ds r hn hrel => have hu := hu_of hr; ⟨_, (pss_one (ps_if (pt_cmpR (opNeD K hr) (pe_d c_bad_in hr (by decide) (by rfl) (pa_cons (pv 0) (pa_cons (pv 1) pa_nil))) (pe_lst pa_nil) (nomark _)) (pss_one (psCan T (by rfl))) pss_nil)), ?_⟩
  obtain ⟨w, l, hw, hl, hz, rfl, rfl⟩ := hrel
  show Run C E _ [.va (encW w), .va (nT l)] _
  refine run_if (EvT.is (et_test (ev_op (ev_callD (ds := [_, _]) (ea_cons (ev_var rfl) (ea_cons (ev_var rfl) ea_nil)) ⟨w, l, hw, hl, hz, rfl, rfl⟩ rfl) (EvD.fz (ev_lst (xs := []) ea_nil (by simp))) (opv_ne_nil (eqOk_parts _)))) (b' := !(badIn w l).isEmpty) (by rw [isEmpty_parts])) (fun hb => run_raise ?_) fun hb => run_next ?_
  · show (if _ then _ else _) = none
    rw [if_neg (by simpa using hb)]
  · show (if _ then _ else _) = some D.non
    rw [if_pos (by simpa using hb)]
theorem bk_order_for : BindK "order_for" s_order_for ["web", "lot"] := fun _ _ _ _ _ _ us ws hl => by
  rcases us with _ | ⟨a, _ | ⟨b, _ | ⟨c, us⟩⟩⟩ <;> rcases ws with _ | ⟨d, _ | ⟨e, _ | ⟨g, ws⟩⟩⟩ <;> first | rfl | (simp at hl; try omega)
def r_order_for (ds : List D) (r : Option D) : Prop := ∃ (w : Web) (l : List Nat) (dw dl : D), InW w dw ∧ InL w l dl ∧ Rnd w (othersIn w l) ∧ ds = [dw, dl] ∧ r = (if (badIn w l).isEmpty = true then some (nT (orderInLot w l)) else none)
theorem cal_order_for (T : Txt K mg C) (Dx : DefAt K mg "order_for" s_order_for f fd) (c_both_sure : CalD P w K mg base 8 "both_sure" ["web", "lot"] (spD C 2 r_both_sure)) (c_order_in_lot : CalD P w K mg base 5 "order_in_lot" ["web", "lot"] (spD C 2 r_order_in_lot)) (c_sure_free : CalD P w K mg base 5 "sure_free" ["web", "lot"] (spD C 2 r_sure_free)) : CalK P w K mg base 9 "order_for" ["web", "lot"] (spD C 2 r_order_for) := by
  refine mkCalK Dx sc_order_for bd_order_for bk_order_for (by decide) fun f cdv A outer s H E hr ds r hn hrel => have hu := hu_of hr; ⟨_, (pss_cons (ps_asg (pe_d c_both_sure hr (by decide) (by rfl) (pa_cons (pv 0) (pa_cons (pv 1) pa_nil))) (pgT K (n := 2) (pgs_cons (pg_name (i := 2) sc_order_for.nd rfl (Or.inl rfl)) (pgs_cons (pg_name (i := 3) sc_order_for.nd rfl (Or.inl rfl)) pgs_nil))))
      (pss_cons (ps_expr (pe_dX c_sure_free hr (by decide) (by rfl) passC (pa_cons (pv 2) (pa_cons (pv 3) pa_nil))))
      (pss_one (ps_ret (pe_d c_order_in_lot hr (by decide) (by rfl) (pa_cons (pv 2) (pa_cons (pv 3) pa_nil))))))), ?_⟩
  obtain ⟨w, l, dw, dl, hw, hl, hr, rfl, rfl⟩ := hrel
  show Run C E _ [.va dw, .va dl, .un, .un] _
  refine run_seq1 (run_asg (ev_callD (ds := [_, _]) (ea_cons (ev_var rfl) (ea_cons (ev_var rfl) ea_nil)) ⟨w, l, dw, dl, hw, hl, rfl, rfl⟩ rfl) (eg_tup (egs_name (egs_name egs_nil)) rfl) rfl) ?_
  by_cases hb : (badIn w l).isEmpty = true
  · rw [if_pos hb]
    refine run_seq1 (run_drop (ev_callD (ds := [_, _]) (d := .non) (ea_cons (ev_var rfl) (ea_cons (ev_var rfl) ea_nil)) ⟨w, l, hw.ok, hl.lot.lt, lot_len hw.ok hl.lot, rfl, by rw [if_pos hb]⟩ rfl) rfl) ?_
    exact run_ret (ev_callD (ds := [_, _]) (ea_cons (ev_var rfl) (ea_cons (ev_var rfl) ea_nil)) ⟨w, l, hw.ok, hl.lot, hr, List.isEmpty_iff.mp hb, rfl, rfl⟩ rfl) rfl
  · rw [if_neg hb]
    exact run_seqX (run_dropX (rz_call (ds := [_, _]) (ea_cons (ev_var rfl) (ea_cons (ev_var rfl) ea_nil)) ⟨w, l, hw.ok, hl.lot.lt, lot_len hw.ok hl.lot, rfl, by rw [if_neg hb]⟩ rfl) rfl)
theorem bk_why_not : BindK "why_not" s_why_not ["web", "lot"] := fun _ _ _ _ _ _ us ws hl => by
  rcases us with _ | ⟨a, _ | ⟨b, _ | ⟨c, us⟩⟩⟩ <;> rcases ws with _ | ⟨d, _ | ⟨e, _ | ⟨g, ws⟩⟩⟩ <;> first | rfl | (simp at hl; try omega)
def r_why_not (ds : List D) (r : Option D) : Prop := ∃ (w : Web) (l : List Nat) (dw dl : D), InW w dw ∧ InL w l dl ∧ ds = [dw, dl] ∧ r = (badIn w l).head?.map nT
theorem cal_why_not (T : Txt K mg C) (Dx : DefAt K mg "why_not" s_why_not f fd) (c_bad_in : CalD P w K mg base 4 "bad_in" ["web", "lot"] (spD C 2 r_bad_in)) (c_both_sure : CalD P w K mg base 8 "both_sure" ["web", "lot"] (spD C 2 r_both_sure)) : CalK P w K mg base 9 "why_not" ["web", "lot"] (spD C 2 r_why_not) := by
  refine mkCalK Dx sc_why_not bd_why_not bk_why_not (by decide) fun f cdv A outer s H E hr ds r hn hrel => have hu := hu_of hr; ⟨_, (pss_cons (ps_asg (pe_d c_both_sure hr (by decide) (by rfl) (pa_cons (pv 0) (pa_cons (pv 1) pa_nil))) (pgT K (n := 2) (pgs_cons (pg_name (i := 2) sc_why_not.nd rfl (Or.inl rfl)) (pgs_cons (pg_name (i := 3) sc_why_not.nd rfl (Or.inl rfl)) pgs_nil))))
      (pss_cons (ps_set (i := 4) sc_why_not.nd rfl (Or.inl rfl) (pe_d c_bad_in hr (by decide) (by rfl) (pa_cons (pv 2) (pa_cons (pv 3) pa_nil))))
      (pss_cons (ps_if (pt_cmpR (opEqD K hr) (pv 4) (pe_lst pa_nil) (nomark _)) (pss_one (psCan T (by rfl))) pss_nil)
      (pss_one (ps_ret (pe_ix (ixL K) (pv 4) pe_int (fun _ _ => rfl))))))), ?_⟩
  obtain ⟨w, l, dw, dl, hw, hl, rfl, rfl⟩ := hrel
  show Run C E _ [.va dw, .va dl, .un, .un, .un] _
  refine run_seq1 (run_asg (ev_callD (ds := [_, _]) (ea_cons (ev_var rfl) (ea_cons (ev_var rfl) ea_nil)) ⟨w, l, dw, dl, hw, hl, rfl, rfl⟩ rfl) (eg_tup (egs_name (egs_name egs_nil)) rfl) rfl) ?_
  refine run_seq1 (run_set (ev_callD (ds := [_, _]) (ea_cons (ev_var rfl) (ea_cons (ev_var rfl) ea_nil)) ⟨w, l, hw.ok, hl.lot.lt, lot_len hw.ok hl.lot, rfl, rfl⟩ rfl) rfl) ?_
  refine run_seq (fun ρ => (badIn w l).isEmpty = false ∧ ρ = [.va dw, .va dl, .va (encW w), .va (nT l), .va (.lst ((badIn w l).map nT))]) (run_if (EvT.is (et_test (ev_op (ev_var rfl) (EvD.fz (ev_lst (xs := []) ea_nil (by simp))) (opv_eq_nil (eqOk_parts _)))) (b' := (badIn w l).isEmpty) (by rw [isEmpty_parts])) (fun hb => run_raise ?_) fun hb => run_next ⟨hb, rfl⟩) ?_
  · rw [List.isEmpty_iff.mp hb] <;> rfl
  · rintro _ ⟨hb, rfl⟩
    cases e : badIn w l with
    | nil => rw [e] at hb; cases hb
    | cons p rest => exact run_ret (ev_ixL (ev_var rfl) (ev_c fun _ => .int _) (d := nT p) (atI_nat (j := 0) rfl)) rfl
theorem bk_spare_places : BindK "spare_places" s_spare_places ["web", "lot"] := fun _ _ _ _ _ _ us ws hl => by
  rcases us with _ | ⟨a, _ | ⟨b, _ | ⟨c, us⟩⟩⟩ <;> rcases ws with _ | ⟨d, _ | ⟨e, _ | ⟨g, ws⟩⟩⟩ <;> first | rfl | (simp at hl; try omega)
def r_spare_places (ds : List D) (r : Option D) : Prop := ∃ (w : Web) (l : List Nat) (dw dl : D), InW w dw ∧ InL w l dl ∧ badIn w l = [] ∧ ds = [dw, dl] ∧ r = some (nT (sparePlaces w l))
theorem cal_spare_places (T : Txt K mg C) (Dx : DefAt K mg "spare_places" s_spare_places f fd) (c_both_sure : CalD P w K mg base 8 "both_sure" ["web", "lot"] (spD C 2 r_both_sure)) (c_others_in : CalD P w K mg base 1 "others_in" ["web", "lot"] (spD C 2 r_others_in)) (c_spare_in : CalD P w K mg base 2 "spare_in" ["web", "lot"] (spD C 2 r_spare_in)) (c_sure_free : CalD P w K mg base 5 "sure_free" ["web", "lot"] (spD C 2 r_sure_free)) (c_trees_of : CalD P w K mg base 3 "trees_of" ["web", "others"] (spD C 2 r_trees_of)) : CalK P w K mg base 9 "spare_places" ["web", "lot"] (spD C 2 r_spare_places) := by
  refine mkCalK Dx sc_spare_places bd_spare_places bk_spare_places (by decide) fun f cdv A outer s H E hr ds r hn hrel => have hu := hu_of hr; ⟨_, PSs.nox (pss_cons (ps_asg (pe_d c_both_sure hr (by decide) (by rfl) (pa_cons (pv 0) (pa_cons (pv 1) pa_nil))) (pgT K (n := 2) (pgs_cons (pg_name (i := 2) sc_spare_places.nd rfl (Or.inl rfl)) (pgs_cons (pg_name (i := 3) sc_spare_places.nd rfl (Or.inl rfl)) pgs_nil))))
      (pss_cons (ps_expr (pe_d c_sure_free hr (by decide) (by rfl) (pa_cons (pv 2) (pa_cons (pv 3) pa_nil))))
      (pss_cons (ps_asg (pe_tup (pa_cons (pe_d c_spare_in hr (by decide) (by rfl) (pa_cons (pv 2) (pa_cons (pv 3) pa_nil))) (pa_cons (pe_lst pa_nil) pa_nil))) (pgT K (n := 2) (pgs_cons (pg_name (i := 4) sc_spare_places.nd rfl (Or.inr rfl)) (pgs_cons (pg_name (i := 5) sc_spare_places.nd rfl (Or.inl rfl)) pgs_nil))))
      (pss_cons (ps_for PassesOwn.never rfl (piL K (pe_d c_trees_of hr (by decide) (by rfl) (pa_cons (pv 2) (pa_cons (pe_d c_others_in hr (by decide) (by rfl) (pa_cons (pv 2) (pa_cons (pv 3) pa_nil))) pa_nil)))) (pg_name (i := 6) sc_spare_places.nd rfl (Or.inl rfl)) (pss_one (ps_expr (bmL K PySem.F.slot_list_extend PySem.F.type_list_extend mt_extend (pv 5) (pa_cons (pe_lc (own := [("place", 7)]) rfl sc_spare_places.nd (piT K (pv 6)) (blkOk_by rfl) (fun _ _ _ _ _ => (pg_name (i := 7) sc_spare_places.nd rfl (Or.inl rfl))) (fun _ _ _ _ _ => (pts_one (pt_cmpR (opIn K) (pv 7) (pv 4) rfl))) (fun _ _ _ _ _ => (pv 7))) pa_nil)))))
      (pss_one (ps_ret (pe_callTy (crTup K) (by rfl) T.tuple (by decide +kernel) (pa_cons (pe_callB (crSorted K) (by rfl) T.sorted (by decide +kernel) (pa_cons (pv 5) pa_nil)) pa_nil)))))))), ?_⟩
  obtain ⟨w, l, dw, dl, hw, hl, hb, rfl, rfl⟩ := hrel
  show Run C E _ [.va dw, .va dl, .un, .un, .un, .un, .un, .un] _
  have hlz := lot_len hw.ok hl.lot
  obtain ⟨t1, t2⟩ := trees_len hw.ok (o := othersIn w l) others_lt
  refine run_seq1 (run_asg (ev_callD (ds := [_, _]) (ea_cons (ev_var rfl) (ea_cons (ev_var rfl) ea_nil)) ⟨w, l, dw, dl, hw, hl, rfl, rfl⟩ rfl) (eg_tup (egs_name (egs_name egs_nil)) rfl) rfl) ?_
  refine run_seq1 (run_drop (ev_callD (ds := [_, _]) (d := .non) (ea_cons (ev_var rfl) (ea_cons (ev_var rfl) ea_nil)) ⟨w, l, hw.ok, hl.lot.lt, hlz, rfl, by rw [hb] <;> rfl⟩ rfl) rfl) ?_
  refine run_seq1 (run_tup2 (ea_cons (ev_callD (ds := [_, _]) (ea_cons (ev_var rfl) (ea_cons (ev_var rfl) ea_nil)) ⟨w, l, hw.ok, hl.lot.lt, hlz, rfl, rfl⟩ rfl) (ea_cons (ev_lst (xs := []) ea_nil (by simp)) ea_nil)) rfl (by decide)) ?_
  refine run_seq (fun ρ => ∃ u6 u7, ρ = [.va dw, .va dl, .va (encW w), .va (nT l), .va (nL (spareIn w l)), .ow (nL ((treesOf w (othersIn w l)).flatMap fun part => part.filter fun p => decide (p ∈ spareIn w l))), u6, u7])
    (run_forP (treesOf w (othersIn w l)) nT (fun pre ρ => ∃ u6, ρ = [.va dw, .va dl, .va (encW w), .va (nT l), .va (nL (spareIn w l)), .ow (nL (pre.flatMap fun part => part.filter fun p => decide (p ∈ spareIn w l))), u6, .un])
      (EvI.hide (d := .lst []) 5 rfl rfl (ei_list (ev_callD (ds := [_, _]) (ea_cons (ev_var rfl) (ea_cons (ev_callD (ds := [_, _]) (ea_cons (ev_var rfl) (ea_cons (ev_var rfl) ea_nil)) ⟨w, l, hw.ok, rfl, rfl⟩ rfl) ea_nil)) ⟨w, _, hw.ok, others_lt, others_len hw.ok, rfl, rfl⟩ rfl))) ⟨.un, rfl⟩ ?_ fun ρ2 ⟨u6, h⟩ => ⟨u6, _, h⟩) ?_
  · rintro pre part post _ e ⟨u6, rfl⟩
    have hm : part ∈ treesOf w (othersIn w l) := by rw [e]; simp
    have hpz := t2 part hm
    have hpl : pre.length ≤ 100 := by have := congrArg List.length e; simp at this; omega
    have hfl := flat_len (f := fun part => part.filter fun p => decide (p ∈ spareIn w l)) (k := 100) (l := pre) fun x hx => Nat.le_trans (List.length_filter_le _ _) (t2 x (by rw [e]; simp [hx]))
    have hkl := List.length_filter_le (fun p => decide (p ∈ spareIn w l)) part
    refine ⟨_, _, eg_name 6, run_drop (ev_extend rfl (EvD.fz (ev_lcP part nD (fun p => decide (p ∈ spareIn w l)) nD (fun q => [.va dw, .va dl, .va (encW w), .va (nT l), .va (nL (spareIn w l)), .ow (nL (pre.flatMap fun part => part.filter fun p => decide (p ∈ spareIn w l))), .va (nT part), .va (nD q)]) (ei_tup (ev_var rfl)) (by omega) rfl (fun x _ => eg_name 7) (fun x hx => et_test (ev_op (ev_var rfl) (ev_var rfl) opv_in_nL)) (fun x _ _ => (ev_var rfl)) (fun _ _ => rfl) (by simp))) rfl (by rw [List.length_map, List.length_map]; omega)) ⟨.va (nT part), ?_⟩⟩
    simp only [nL, List.flatMap_append, List.map_append, List.flatMap_cons, List.flatMap_nil, List.append_nil]
    rfl
  · rintro _ ⟨u6, u7, rfl⟩
    exact run_ret (ev_tupL (EvD.frz (i := 5) rfl (ev_callO (xs := [_]) (ea_cons (ev_var rfl) ea_nil) co_sortedN))) rfl
theorem bk_how_many_free : BindK "how_many_free" s_how_many_free ["web", "lot"] := fun _ _ _ _ _ _ us ws hl => by
  rcases us with _ | ⟨a, _ | ⟨b, _ | ⟨c, us⟩⟩⟩ <;> rcases ws with _ | ⟨d, _ | ⟨e, _ | ⟨g, ws⟩⟩⟩ <;> first | rfl | (simp at hl; try omega)
def r_how_many_free (ds : List D) (r : Option D) : Prop := ∃ (w : Web) (l : List Nat) (dw dl : D), InW w dw ∧ InL w l dl ∧ badIn w l = [] ∧ ds = [dw, dl] ∧ r = some (.int ((w.many : Int) - (w.gs.length : Int) + (l.length : Int)))
theorem cal_how_many_free (T : Txt K mg C) (Dx : DefAt K mg "how_many_free" s_how_many_free f fd) (c_both_sure : CalD P w K mg base 8 "both_sure" ["web", "lot"] (spD C 2 r_both_sure)) (c_sure_free : CalD P w K mg base 5 "sure_free" ["web", "lot"] (spD C 2 r_sure_free)) : CalK P w K mg base 9 "how_many_free" ["web", "lot"] (spD C 2 r_how_many_free) := by
  refine mkCalK Dx sc_how_many_free bd_how_many_free bk_how_many_free (by decide) fun f cdv A outer s H E hr ds r hn hrel => have hu := hu_of hr; ⟨_, PSs.nox (pss_cons (ps_asg (pe_d c_both_sure hr (by decide) (by rfl) (pa_cons (pv 0) (pa_cons (pv 1) pa_nil))) (pgT K (n := 2) (pgs_cons (pg_name (i := 2) sc_how_many_free.nd rfl (Or.inl rfl)) (pgs_cons (pg_name (i := 3) sc_how_many_free.nd rfl (Or.inl rfl)) pgs_nil))))
      (pss_cons (ps_expr (pe_d c_sure_free hr (by decide) (by rfl) (pa_cons (pv 2) (pa_cons (pv 3) pa_nil))))
      (pss_one (ps_ret (pe_op op_add (pe_op op_sub (pe_ix (ixT K) (pv 2) pe_int (fun _ _ => rfl)) (pe_callB (crLen K) (by rfl) T.len PySem.boot_len (pa_cons (pe_ix (ixT K) (pv 2) pe_int (fun _ _ => rfl)) pa_nil))) (pe_callB (crLen K) (by rfl) T.len PySem.boot_len (pa_cons (pv 3) pa_nil))))))), ?_⟩
  obtain ⟨w, l, dw, dl, hw, hl, hb, rfl, rfl⟩ := hrel
  show Run C E _ [.va dw, .va dl, .un, .un] _
  refine run_seq1 (run_asg (ev_callD (ds := [_, _]) (ea_cons (ev_var rfl) (ea_cons (ev_var rfl) ea_nil)) ⟨w, l, dw, dl, hw, hl, rfl, rfl⟩ rfl) (eg_tup (egs_name (egs_name egs_nil)) rfl) rfl) ?_
  refine run_seq1 (run_drop (ev_callD (ds := [_, _]) (d := .non) (ea_cons (ev_var rfl) (ea_cons (ev_var rfl) ea_nil)) ⟨w, l, hw.ok, hl.lot.lt, lot_len hw.ok hl.lot, rfl, by rw [hb] <;> rfl⟩ rfl) rfl) ?_
  refine run_ret (EvD.is (ev_op (ev_op (ev_w0 rfl) (ev_lenG rfl) opv_int) (ev_lenT (ev_var rfl)) opv_int) ?_) rfl
  rw [List.length_map]

structure InP (w : Web) (l : List Nat) (d : D) : Prop where
  lt : ∀ p ∈ l, p < w.many
  asc : l.Pairwise (· < ·)
  tup : tupD d = nT l
  dep : depD d < 5
  wid : K17.wid d = true

def r_sure_places (ds : List D) (r : Option D) : Prop := ∃ (w : Web) (l : List Nat) (d : D), w.Ok ∧ InP w l d ∧ ds = [encW w, d] ∧ r = some (nT l)
theorem cal_sure_places (T : Txt K mg C) (Dx : DefAt K mg "sure_places" s_sure_places f fd) (c_ascends : CalD P w K mg base 1 "ascends" ["row"] (spD C 1 r_ascends)) (c_is_within : CalD P w K mg base 2 "is_within" ["thing", "least", "most"] (spD C 3 r_is_within)) (c_tupled : CalD P w K mg base 6 "tupled" ["value"] (spD C 1 r_tupled)) : CalD P w K mg base 7 "sure_places" ["web", "places"] (spD C 2 r_sure_places) := by
  refine mkCal Dx sc_sure_places bd_sure_places (by decide) fun f cdv A outer s H E hr => have hu := hu_of hr; ⟨_, (pss_cons (ps_set (i := 2) sc_sure_places.nd rfl (Or.inl rfl) (pe_d c_tupled hr (by decide) (by rfl) (pa_cons (pv 1) pa_nil)))
      (pss_cons (ps_if (PW.pt (pw_or (pt_not (pt_val (pe_callB (crIsi K) (by rfl) T.isinstance (by decide +kernel) (pa_cons (pv 2) (pa_cons (pe_bltn (v := .ty "tuple") (u := .type "tuple") (by rfl) T.tuple (by decide +kernel) rfl) pa_nil))))) (pw_or (pt_not (pt_val (pe_callB (crAll K) (by rfl) T.all (by decide +kernel) (pa_cons (pe_lc (own := [("place", 3)]) rfl sc_sure_places.nd (piT K (pv 2)) (blkOk_by rfl) (fun _ _ _ _ _ => (pg_name (i := 3) sc_sure_places.nd rfl (Or.inl rfl))) (fun _ _ _ _ _ => pts_nil) (fun _ _ _ _ _ => (pe_d c_is_within hr (by decide) (by rfl) (pa_cons (pv 3) (pa_cons pe_int (pa_cons (pe_op op_sub (pe_ix (ixT K) (pv 0) pe_int (fun _ _ => rfl)) pe_int) pa_nil)))))) pa_nil)))) (pw_or1 (pt_not (pt_val (pe_d c_ascends hr (by decide) (by rfl) (pa_cons (pv 2) pa_nil)))))))) (pss_one ps_never) pss_nil)
      (pss_one (ps_ret (pv 2))))), ?_⟩
  rintro ds r _ ⟨w, l, d, hw, hl, rfl, rfl⟩
  show Run C E _ [.va (encW w), .va d, .un, .un] _
  have hs := hw.small
  have hz : l.length ≤ w.many := len_of_lt (hl.asc.imp fun h => by omega) hl.lt
  refine run_seq1 (run_set (ev_callD (ds := [_]) (ea_cons (ev_var rfl) ea_nil) ⟨d, hl.dep, hl.wid, rfl, rfl⟩ rfl) rfl) ?_
  rw [hl.tup]
  refine run_seq1 (run_if (et_or (b1 := false) (et_not (b := true) (et_test (ev_isi (ev_var rfl) (ev_c fun _ => .ty _) rfl k_tuple_tuple))) fun _ => et_or (b1 := false) (b2 := false) (et_not (b := true) (et_test (EvD.is (ev_all (ev_lcM l nD (fun _ => .bl true) (fun x => [.va (encW w), .va d, .va (nT l), .va (nD x)]) (ei_tup (ev_var rfl)) (by omega) rfl (fun x _ => eg_name 3) (fun x hx => ?_) (fun _ _ => rfl) (by simp))) (by simp)))) fun _ => et_not (b := true) (et_test (ev_callD (ds := [_]) (ea_cons (ev_var rfl) ea_nil) ⟨l, hl.asc, by omega, rfl, rfl⟩ rfl))) (fun z => by cases z) fun _ => run_next rfl) ?_
  · have := hl.lt x hx
    exact ev_callD (ds := [_, _, _]) (ea_cons (ev_var rfl) (ea_cons (ev_c fun _ => .int _) (ea_cons (ev_op (ev_w0 rfl) (ev_c fun _ => .int _) opv_int) ea_nil))) ⟨_, _, _, by omega, by omega, rfl, rfl⟩ rfl
  · exact run_ret (ev_var rfl) rfl
def r_order_leaving (ds : List D) (r : Option D) : Prop := ∃ (w : Web) (l fr : List Nat) (dw dl dp : D), InW w dw ∧ InL w l dl ∧ InP w fr dp ∧ Rnd w (othersIn w l) ∧ badIn w l = [] ∧ fr.length = (treesOf w (othersIn w l)).length ∧ (∀ p ∈ fr, p ∈ spareIn w l) ∧ (∀ part ∈ treesOf w (othersIn w l), ∃ p ∈ fr, p ∈ part) ∧ ds = [dw, dl, dp] ∧ r = some (nT (orderBy w l fr))
theorem cal_order_leaving (T : Txt K mg C) (Dx : DefAt K mg "order_leaving" s_order_leaving f fd) (c_both_sure : CalD P w K mg base 8 "both_sure" ["web", "lot"] (spD C 2 r_both_sure)) (c_order_by : CalD P w K mg base 4 "order_by" ["web", "lot", "frees"] (spD C 3 r_order_by)) (c_others_in : CalD P w K mg base 1 "others_in" ["web", "lot"] (spD C 2 r_others_in)) (c_spare_in : CalD P w K mg base 2 "spare_in" ["web", "lot"] (spD C 2 r_spare_in)) (c_sure_free : CalD P w K mg base 5 "sure_free" ["web", "lot"] (spD C 2 r_sure_free)) (c_sure_places : CalD P w K mg base 7 "sure_places" ["web", "places"] (spD C 2 r_sure_places)) (c_trees_of : CalD P w K mg base 3 "trees_of" ["web", "others"] (spD C 2 r_trees_of)) : CalD P w K mg base 9 "order_leaving" ["web", "lot", "places"] (spD C 3 r_order_leaving) := by
  refine mkCal Dx sc_order_leaving bd_order_leaving (by decide) fun f cdv A outer s H E hr => have hu := hu_of hr; ⟨_, (pss_cons (ps_asg (pe_d c_both_sure hr (by decide) (by rfl) (pa_cons (pv 0) (pa_cons (pv 1) pa_nil))) (pgT K (n := 2) (pgs_cons (pg_name (i := 3) sc_order_leaving.nd rfl (Or.inl rfl)) (pgs_cons (pg_name (i := 4) sc_order_leaving.nd rfl (Or.inl rfl)) pgs_nil))))
      (pss_cons (ps_set (i := 5) sc_order_leaving.nd rfl (Or.inr rfl) (pe_d c_sure_places hr (by decide) (by rfl) (pa_cons (pv 3) (pa_cons (pv 2) pa_nil))))
      (pss_cons (ps_expr (pe_d c_sure_free hr (by decide) (by rfl) (pa_cons (pv 3) (pa_cons (pv 4) pa_nil))))
      (pss_cons (ps_asg (pe_tup (pa_cons (pe_d c_spare_in hr (by decide) (by rfl) (pa_cons (pv 3) (pa_cons (pv 4) pa_nil))) (pa_cons (pe_d c_trees_of hr (by decide) (by rfl) (pa_cons (pv 3) (pa_cons (pe_d c_others_in hr (by decide) (by rfl) (pa_cons (pv 3) (pa_cons (pv 4) pa_nil))) pa_nil))) pa_nil))) (pgT K (n := 2) (pgs_cons (pg_name (i := 6) sc_order_leaving.nd rfl (Or.inr rfl)) (pgs_cons (pg_name (i := 7) sc_order_leaving.nd rfl (Or.inl rfl)) pgs_nil))))
      (pss_cons (ps_if (PW.pt (pw_or (pt_cmpR op_ne (pe_callB (crLen K) (by rfl) T.len PySem.boot_len (pa_cons (pv 5) pa_nil)) (pe_callB (crLen K) (by rfl) T.len PySem.boot_len (pa_cons (pv 7) pa_nil)) (nomark _)) (pw_or1 (pt_not (pt_val (pe_callB (crAll K) (by rfl) T.all (by decide +kernel) (pa_cons (pe_lc (own := [("place", 8)]) rfl sc_order_leaving.nd (piT K (pv 5)) (blkOk_by rfl) (fun _ _ _ _ _ => (pg_name (i := 8) sc_order_leaving.nd rfl (Or.inl rfl))) (fun _ _ _ _ _ => pts_nil) (fun _ _ _ _ _ => (pe_cmpR (opIn K) (pv 8) (pv 6) rfl))) pa_nil))))))) (pss_one ps_never) pss_nil)
      (pss_cons (ps_if (pt_not (pt_val (pe_callB (crAll K) (by rfl) T.all (by decide +kernel) (pa_cons (pe_lc (own := [("part", 9)]) rfl sc_order_leaving.nd (piL K (pv 7)) (blkOk_by rfl) (fun _ _ _ _ _ => (pg_name (i := 9) sc_order_leaving.nd rfl (Or.inr rfl))) (fun _ _ _ _ _ => pts_nil) (fun _ _ _ _ _ => (pe_callB (crAny K) (by rfl) T.any (by decide +kernel) (pa_cons (pe_lc (own := [("place", 8)]) rfl sc_order_leaving.nd (piT K (pv 5)) (blkOk_by rfl) (fun _ _ _ _ _ => (pg_name (i := 8) sc_order_leaving.nd rfl (Or.inl rfl))) (fun _ _ _ _ _ => pts_nil) (fun _ _ _ _ _ => (pe_cmpR (opIn K) (pv 8) (pv 9) rfl))) pa_nil)))) pa_nil)))) (pss_one ps_never) pss_nil)
      (pss_one (ps_ret (pe_d c_order_by hr (by decide) (by rfl) (pa_cons (pv 3) (pa_cons (pv 4) (pa_cons (pe_callTy (crLst K) (by rfl) T.list (by decide +kernel) (pa_cons (pv 5) pa_nil)) pa_nil)))))))))))), ?_⟩
  rintro ds r _ ⟨w, l, fr, dw, dl, dp, hw, hl, hp, hr, hb, h1, h2, h3, rfl, rfl⟩
  show Run C E _ [.va dw, .va dl, .va dp, .un, .un, .un, .un, .un, .un, .un] _
  have hs := hw.ok.small
  have hlz := lot_len hw.ok hl.lot
  have hz : fr.length ≤ w.many := len_of_lt (hp.asc.imp fun h => by omega) hp.lt
  obtain ⟨t1, t2⟩ := trees_len hw.ok (o := othersIn w l) others_lt
  refine run_seq1 (run_asg (ev_callD (ds := [_, _]) (ea_cons (ev_var rfl) (ea_cons (ev_var rfl) ea_nil)) ⟨w, l, dw, dl, hw, hl, rfl, rfl⟩ rfl) (eg_tup (egs_name (egs_name egs_nil)) rfl) rfl) ?_
  refine run_seq1 (run_set (ev_callD (ds := [_, _]) (ea_cons (ev_var rfl) (ea_cons (ev_var rfl) ea_nil)) ⟨w, fr, dp, hw.ok, hp, rfl, rfl⟩ rfl) rfl) ?_
  refine run_seq1 (run_drop (ev_callD (ds := [_, _]) (d := .non) (ea_cons (ev_var rfl) (ea_cons (ev_var rfl) ea_nil)) ⟨w, l, hw.ok, hl.lot.lt, hlz, rfl, by rw [hb] <;> rfl⟩ rfl) rfl) ?_
  refine run_seq1 (run_asg (ev_tup (xs := [_, _]) (ea_cons (ev_callD (ds := [_, _]) (ea_cons (ev_var rfl) (ea_cons (ev_var rfl) ea_nil)) ⟨w, l, hw.ok, hl.lot.lt, hlz, rfl, rfl⟩ rfl) (ea_cons (ev_callD (ds := [_, _]) (ea_cons (ev_var rfl) (ea_cons (ev_callD (ds := [_, _]) (ea_cons (ev_var rfl) (ea_cons (ev_var rfl) ea_nil)) ⟨w, l, hw.ok, rfl, rfl⟩ rfl) ea_nil)) ⟨w, _, hw.ok, others_lt, others_len hw.ok, rfl, rfl⟩ rfl) ea_nil)) (by simp)) (eg_tup (egs_name (egs_name egs_nil)) rfl) rfl) ?_
  refine run_seq1 (run_if (et_or (b1 := false) (b2 := false) (EvT.is (et_test (ev_op (ev_lenT (ev_var rfl)) (ev_lenL (ev_var rfl)) opv_neI)) ?_) fun _ => et_not (b := true) (et_test (EvD.is (ev_all (ev_lcM fr nD (fun x => .bl (decide (x ∈ spareIn w l))) (fun x => [.va dw, .va dl, .va dp, .va (encW w), .va (nT l), .va (nT fr), .va (nL (spareIn w l)), .va (.lst ((treesOf w (othersIn w l)).map nT)), .va (nD x), .un]) (ei_tup (ev_var rfl)) (by omega) rfl (fun x _ => eg_name 8) (fun x hx => ev_op (ev_var rfl) (ev_var rfl) opv_in_nL) (fun _ _ => rfl) (by simp))) ?_))) (fun z => by cases z) fun _ => run_next rfl) ?_
  · rw [List.length_map, List.length_map, h1]; simp
  · have : fr.all (fun x => decide (x ∈ spareIn w l)) = true := List.all_eq_true.mpr fun x hx => decide_eq_true (h2 x hx)
    rw [this]
  refine run_seq1 (run_if (et_not (b := true) (et_test (EvD.is (ev_all (ev_lcM (treesOf w (othersIn w l)) nT (fun part => .bl (fr.any fun x => decide (x ∈ part))) (fun part => [.va dw, .va dl, .va dp, .va (encW w), .va (nT l), .va (nT fr), .va (nL (spareIn w l)), .va (.lst ((treesOf w (othersIn w l)).map nT)), .un, .va (nT part)]) (ei_list (ev_var rfl)) (by omega) rfl (fun x _ => eg_name 9)
    (fun part hx => ev_any (ev_lcM fr nD (fun x => .bl (decide (x ∈ part))) (fun x => [.va dw, .va dl, .va dp, .va (encW w), .va (nT l), .va (nT fr), .va (nL (spareIn w l)), .va (.lst ((treesOf w (othersIn w l)).map nT)), .va (nD x), .va (nT part)]) (ei_tup (ev_var rfl)) (by omega) rfl (fun x _ => eg_name 8) (fun x hx => ev_op (ev_var rfl) (ev_var rfl) opv_in_nT) (fun _ _ => rfl) (by simp))) (fun _ _ => rfl) (by simp))) ?_))) (fun z => by cases z) fun _ => run_next rfl) ?_
  · have : (treesOf w (othersIn w l)).all (fun part => fr.any fun x => decide (x ∈ part)) = true := List.all_eq_true.mpr fun part hx => List.any_eq_true.mpr (by
      obtain ⟨p, q1, q2⟩ := h3 part hx
      exact ⟨p, q1, decide_eq_true q2⟩)
    rw [this]
  exact run_ret (ev_callD (ds := [_, _, _]) (ea_cons (ev_var rfl) (ea_cons (ev_var rfl) (ea_cons (EvD.fz (ev_lstT (ev_var rfl))) ea_nil))) ⟨w, l, fr, hw.ok, hl.lot, hr, rfl, rfl⟩ rfl) rfl
def r_barring_in (ds : List D) (r : Option D) : Prop := ∃ (w : Web) (l : List Nat), w.Ok ∧ (∀ g ∈ l, g < w.gs.length) ∧ l.length ≤ 100 ∧ ds = [encW w, nT l] ∧ r = some (.lst ((barringIn w l).map nT))
theorem cal_barring_in (T : Txt K mg C) (Dx : DefAt K mg "barring_in" s_barring_in f fd) (c_is_tree_in : CalD P w K mg base 2 "is_tree_in" ["web", "others", "part"] (spD C 3 r_is_tree_in)) (c_met_by : CalD P w K mg base 1 "met_by" ["web", "lot"] (spD C 2 r_met_by)) (c_others_in : CalD P w K mg base 1 "others_in" ["web", "lot"] (spD C 2 r_others_in)) (c_parts_in : CalD P w K mg base 2 "parts_in" ["web", "lot"] (spD C 2 r_parts_in)) (c_spare_in : CalD P w K mg base 2 "spare_in" ["web", "lot"] (spD C 2 r_spare_in)) : CalD P w K mg base 3 "barring_in" ["web", "lot"] (spD C 2 r_barring_in) := by
  refine mkCal Dx sc_barring_in bd_barring_in (by decide) fun f cdv A outer s H E hr => have hu := hu_of hr; ⟨_, (pss_cons (ps_asg (pe_tup (pa_cons (pe_d c_others_in hr (by decide) (by rfl) (pa_cons (pv 0) (pa_cons (pv 1) pa_nil))) (pa_cons (pe_d c_spare_in hr (by decide) (by rfl) (pa_cons (pv 0) (pa_cons (pv 1) pa_nil))) (pa_cons (pe_d c_met_by hr (by decide) (by rfl) (pa_cons (pv 0) (pa_cons (pv 1) pa_nil))) pa_nil)))) (pgT K (n := 3) (pgs_cons (pg_name (i := 2) sc_barring_in.nd rfl (Or.inl rfl)) (pgs_cons (pg_name (i := 3) sc_barring_in.nd rfl (Or.inr rfl)) (pgs_cons (pg_name (i := 4) sc_barring_in.nd rfl (Or.inr rfl)) pgs_nil)))))
      (pss_cons (ps_set (i := 5) sc_barring_in.nd rfl (Or.inl rfl) (pe_lst pa_nil))
      (pss_cons (ps_for PassesOwn.never rfl (piL K (pe_d c_parts_in hr (by decide) (by rfl) (pa_cons (pv 0) (pa_cons (pv 2) pa_nil)))) (pg_name (i := 6) sc_barring_in.nd rfl (Or.inl rfl)) (pss_one (ps_if (PW.pt (pw_and (pt_val (pe_d c_is_tree_in hr (by decide) (by rfl) (pa_cons (pv 0) (pa_cons (pv 2) (pa_cons (pv 6) pa_nil))))) (pw_and1 (pt_val (pe_callB (crAny K) (by rfl) T.any (by decide +kernel) (pa_cons (pe_lc (own := [("place", 7)]) rfl sc_barring_in.nd (piT K (pv 6)) (blkOk_by rfl) (fun _ _ _ _ _ => (pg_name (i := 7) sc_barring_in.nd rfl (Or.inl rfl))) (fun _ _ _ _ _ => pts_nil) (fun _ _ _ _ _ => (pe_cmpR (opIn K) (pv 7) (pv 4) rfl))) pa_nil)))))) (pss_one (ps_if (pt_not (pt_val (pe_callB (crAny K) (by rfl) T.any (by decide +kernel) (pa_cons (pe_lc (own := [("place", 7)]) rfl sc_barring_in.nd (piT K (pv 6)) (blkOk_by rfl) (fun _ _ _ _ _ => (pg_name (i := 7) sc_barring_in.nd rfl (Or.inl rfl))) (fun _ _ _ _ _ => pts_nil) (fun _ _ _ _ _ => (pe_cmpR (opIn K) (pv 7) (pv 3) rfl))) pa_nil)))) (pss_one (ps_expr (bmL K PySem.F.slot_list_append PySem.F.type_list_append mt_append (pv 5) (pa_cons (pv 6) pa_nil)))) pss_nil)) pss_nil)))
      (pss_one (ps_ret (pv 5)))))), ?_⟩
  rintro ds r _ ⟨w, l, hw, hl, hz, rfl, rfl⟩
  show Run C E _ [.va (encW w), .va (nT l), .un, .un, .un, .un, .un, .un] _
  obtain ⟨p1, p2⟩ := partsIn_ok hw (lot := othersIn w l) others_lt
  have oz := others_len hw (l := l)
  refine run_seq1 (run_asg (ev_tup (xs := [_, _, _]) (ea_cons (ev_callD (ds := [_, _]) (ea_cons (ev_var rfl) (ea_cons (ev_var rfl) ea_nil)) ⟨w, l, hw, rfl, rfl⟩ rfl) (ea_cons (ev_callD (ds := [_, _]) (ea_cons (ev_var rfl) (ea_cons (ev_var rfl) ea_nil)) ⟨w, l, hw, hl, hz, rfl, rfl⟩ rfl) (ea_cons (ev_callD (ds := [_, _]) (ea_cons (ev_var rfl) (ea_cons (ev_var rfl) ea_nil)) ⟨w, l, hl, hz, rfl, rfl⟩ rfl) ea_nil))) (by simp)) (eg_tup (egs_name (egs_name (egs_name egs_nil))) rfl) rfl) ?_
  refine run_seq1 (run_set (ev_lst (xs := []) ea_nil (by simp)) rfl) ?_
  refine run_seq (fun ρ => ∃ u6 u7, ρ = [.va (encW w), .va (nT l), .va (nT (othersIn w l)), .va (nL (spareIn w l)), .va (nL (metBy w l)), .ow (.lst ((barringIn w l).map nT)), u6, u7])
    (run_forP (partsIn w (othersIn w l)) nT (fun pre ρ => ∃ u6, ρ = [.va (encW w), .va (nT l), .va (nT (othersIn w l)), .va (nL (spareIn w l)), .va (nL (metBy w l)), .ow (.lst ((pre.filter (isBarring w (othersIn w l) (spareIn w l) (metBy w l))).map nT)), u6, .un])
      (EvI.hide (d := .lst []) 5 rfl rfl (ei_list (ev_callD (ds := [_, _]) (ea_cons (ev_var rfl) (ea_cons (ev_var rfl) ea_nil)) ⟨w, _, hw, others_lt, oz, rfl, rfl⟩ rfl))) ⟨.un, rfl⟩ ?_ fun ρ2 ⟨u6, h⟩ => ⟨u6, _, h⟩) ?_
  · rintro pre part post _ e ⟨u6, rfl⟩
    have hm : part ∈ partsIn w (othersIn w l) := by rw [e]; simp
    have hpz := (p2 part hm).2.2.1
    have hpl : pre.length ≤ 100 := by have := congrArg List.length e; simp at this; omega
    have hfl := List.length_filter_le (isBarring w (othersIn w l) (spareIn w l) (metBy w l)) pre
    have yes : isBarring w (othersIn w l) (spareIn w l) (metBy w l) part = true → ((pre ++ [part]).filter (isBarring w (othersIn w l) (spareIn w l) (metBy w l))).map nT = (pre.filter (isBarring w (othersIn w l) (spareIn w l) (metBy w l))).map nT ++ [nT part] := fun h => by
      rw [List.filter_append, List.map_append]; simp [h]
    have no : isBarring w (othersIn w l) (spareIn w l) (metBy w l) part = false → (pre ++ [part]).filter (isBarring w (othersIn w l) (spareIn w l) (metBy w l)) = pre.filter (isBarring w (othersIn w l) (spareIn w l) (metBy w l)) := fun h => by
      rw [List.filter_append]; simp [h]
    refine ⟨_, _, eg_name 6, ?_⟩
    refine run_if (b := isTree w (othersIn w l) part && hasAny part (metBy w l)) (et_and (et_test (EvD.hide (d := .lst ((pre.filter (isBarring w (othersIn w l) (spareIn w l) (metBy w l))).map nT)) 5 rfl rfl (ev_callD (ds := [_, _, _]) (ea_cons (ev_var rfl) (ea_cons (ev_var rfl) (ea_cons (ev_var rfl) ea_nil))) ⟨w, _, part, others_lt, oz, rfl, rfl⟩ rfl))) fun _ => et_test (ev_any (ev_lcM part nD (fun x => .bl (decide (x ∈ metBy w l))) (fun x => [.va (encW w), .va (nT l), .va (nT (othersIn w l)), .va (nL (spareIn w l)), .va (nL (metBy w l)), .ow (.lst ((pre.filter (isBarring w (othersIn w l) (spareIn w l) (metBy w l))).map nT)), .va (nT part), .va (nD x)]) (ei_tup (ev_var rfl)) (by omega) rfl (fun x _ => eg_name 7) (fun x hx => ev_op (ev_var rfl) (ev_var rfl) opv_in_nL) (fun _ _ => rfl) (by simp)))) (fun hb => ?_) fun hb => run_next ⟨.va (nT part), ?_⟩
    · refine run_if (b := !hasAny part (spareIn w l)) (et_not (et_test (ev_any (ev_lcM part nD (fun x => .bl (decide (x ∈ spareIn w l))) (fun x => [.va (encW w), .va (nT l), .va (nT (othersIn w l)), .va (nL (spareIn w l)), .va (nL (metBy w l)), .ow (.lst ((pre.filter (isBarring w (othersIn w l) (spareIn w l) (metBy w l))).map nT)), .va (nT part), .va (nD x)]) (ei_tup (ev_var rfl)) (by omega) rfl (fun x _ => eg_name 7) (fun x hx => ev_op (ev_var rfl) (ev_var rfl) opv_in_nL) (fun _ _ => rfl) (by simp))))) (fun hb2 => ?_) fun hb2 => run_next ⟨.va (nT part), ?_⟩
      · refine run_drop (ev_append rfl (ev_var rfl) rfl (by rw [List.length_map]; omega)) ⟨.va (nT part), ?_⟩
        rw [yes (by unfold isBarring; rw [hb, hb2] <;> rfl)] <;> rfl
      · rw [no (by unfold isBarring; rw [hb, hb2] <;> rfl)] <;> rfl
    · rw [no (by unfold isBarring; rw [hb] <;> rfl)] <;> rfl
  · rintro _ ⟨u6, u7, rfl⟩
    exact run_ret (EvD.frz (i := 5) rfl (ev_var rfl)) rfl
theorem bk_can_together : BindK "can_together" s_can_together ["web", "lot"] := fun _ _ _ _ _ _ us ws hl => by
  rcases us with _ | ⟨a, _ | ⟨b, _ | ⟨c, us⟩⟩⟩ <;> rcases ws with _ | ⟨d, _ | ⟨e, _ | ⟨g, ws⟩⟩⟩ <;> first | rfl | (simp at hl; try omega)
def r_can_together (ds : List D) (r : Option D) : Prop := ∃ (w : Web) (l : List Nat) (dw dl : D), InW w dw ∧ InL w l dl ∧ ds = [dw, dl] ∧ r = some (.bl (barringIn w l).isEmpty)
theorem cal_can_together (T : Txt K mg C) (Dx : DefAt K mg "can_together" s_can_together f fd) (c_barring_in : CalD P w K mg base 3 "barring_in" ["web", "lot"] (spD C 2 r_barring_in)) (c_both_sure : CalD P w K mg base 8 "both_sure" ["web", "lot"] (spD C 2 r_both_sure)) : CalK P w K mg base 9 "can_together" ["web", "lot"] (spD C 2 r_can_together) := by
  refine mkCalK Dx sc_can_together bd_can_together bk_can_together (by decide) fun f cdv A outer s H E hr ds r hn hrel => have hu := hu_of hr; ⟨_, PSs.nox (pss_cons (ps_asg (pe_d c_both_sure hr (by decide) (by rfl) (pa_cons (pv 0) (pa_cons (pv 1) pa_nil))) (pgT K (n := 2) (pgs_cons (pg_name (i := 2) sc_can_together.nd rfl (Or.inl rfl)) (pgs_cons (pg_name (i := 3) sc_can_together.nd rfl (Or.inl rfl)) pgs_nil))))
      (pss_one (ps_ret (pe_cmpR (opEqD K hr) (pe_d c_barring_in hr (by decide) (by rfl) (pa_cons (pv 2) (pa_cons (pv 3) pa_nil))) (pe_lst pa_nil) (nomark _))))), ?_⟩
  obtain ⟨w, l, dw, dl, hw, hl, rfl, rfl⟩ := hrel
  show Run C E _ [.va dw, .va dl, .un, .un] _
  refine run_seq1 (run_asg (ev_callD (ds := [_, _]) (ea_cons (ev_var rfl) (ea_cons (ev_var rfl) ea_nil)) ⟨w, l, dw, dl, hw, hl, rfl, rfl⟩ rfl) (eg_tup (egs_name (egs_name egs_nil)) rfl) rfl) ?_
  refine run_ret (EvD.is (ev_op (ev_callD (ds := [_, _]) (ea_cons (ev_var rfl) (ea_cons (ev_var rfl) ea_nil)) ⟨w, l, hw.ok, hl.lot.lt, lot_len hw.ok hl.lot, rfl, rfl⟩ rfl) (EvD.fz (ev_lst (xs := []) ea_nil (by simp))) (opv_eq_nil (eqOk_parts _))) ?_) rfl
  rw [isEmpty_parts]
def r_is_never (ds : List D) (r : Option D) : Prop := ∃ (w : Web) (g : Nat), w.Ok ∧ g < w.gs.length ∧ ds = [encW w, nD g] ∧ r = some (.bl (isNever w g))
theorem cal_is_never (T : Txt K mg C) (Dx : DefAt K mg "is_never" s_is_never f fd) (c_barring_in : CalD P w K mg base 3 "barring_in" ["web", "lot"] (spD C 2 r_barring_in)) : CalD P w K mg base 4 "is_never" ["web", "guest"] (spD C 2 r_is_never) := by
  refine mkCal Dx sc_is_never bd_is_never (by decide) fun f cdv A outer s H E hr => have hu := hu_of hr; ⟨_, (pss_one (ps_ret (pe_cmpR (opNeD K hr) (pe_d c_barring_in hr (by decide) (by rfl) (pa_cons (pv 0) (pa_cons (pe_tup (pa_cons (pv 1) pa_nil)) pa_nil))) (pe_lst pa_nil) (nomark _)))), ?_⟩
  rintro ds r _ ⟨w, g, hw, hg, rfl, rfl⟩
  show Run C E _ [.va (encW w), .va (nD g)] _
  refine run_ret (EvD.is (ev_op (ev_callD (ds := [_, _]) (ea_cons (ev_var rfl) (ea_cons (ev_tup (xs := [_]) (ea_cons (ev_var rfl) ea_nil) (by simp)) ea_nil)) ⟨w, [g], hw, by simpa using hg, by simp, rfl, rfl⟩ rfl) (EvD.fz (ev_lst (xs := []) ea_nil (by simp))) (opv_ne_nil (eqOk_parts _))) ?_) rfl
  rw [isEmpty_parts] <;> rfl
def r_never_without (ds : List D) (r : Option D) : Prop := ∃ (w : Web) (dw : D), InW w dw ∧ ds = [dw] ∧ r = some (nT (neverWithout w))
theorem cal_never_without (T : Txt K mg C) (Dx : DefAt K mg "never_without" s_never_without f fd) (c_is_never : CalD P w K mg base 4 "is_never" ["web", "guest"] (spD C 2 r_is_never)) (c_sure_web : CalD P w K mg base 7 "sure_web" ["web"] (spD C 1 r_sure_web)) : CalD P w K mg base 8 "never_without" ["web"] (spD C 1 r_never_without) := by
  refine mkCal Dx sc_never_without bd_never_without (by decide) fun f cdv A outer s H E hr => have hu := hu_of hr; ⟨_, (pss_cons (ps_set (i := 1) sc_never_without.nd rfl (Or.inr rfl) (pe_d c_sure_web hr (by decide) (by rfl) (pa_cons (pv 0) pa_nil)))
      (pss_one (ps_ret (pe_callTy (crTup K) (by rfl) T.tuple (by decide +kernel) (pa_cons (pe_lc (own := [("guest", 2)]) rfl sc_never_without.nd (pi_range1 rfl T.range (pa_cons (pe_callB (crLen K) (by rfl) T.len PySem.boot_len (pa_cons (pe_ix (ixT K) (pv 1) pe_int (fun _ _ => rfl)) pa_nil)) pa_nil)) (blkOk_by rfl) (fun _ _ _ _ _ => (pg_name (i := 2) sc_never_without.nd rfl (Or.inl rfl))) (fun _ _ _ _ _ => (pts_one (pt_val (pe_d c_is_never hr (by decide) (by rfl) (pa_cons (pv 1) (pa_cons (pv 2) pa_nil)))))) (fun _ _ _ _ _ => (pv 2))) pa_nil))))), ?_⟩
  rintro ds r _ ⟨w, dw, hw, rfl, rfl⟩
  show Run C E _ [.va dw, .un, .un] _
  have hf := hw.ok.few
  refine run_seq1 (run_set (ev_callD (ds := [_]) (ea_cons (ev_var rfl) ea_nil) ⟨dw, w, hw.ok, hw.tup, hw.dep, hw.wid, rfl, rfl⟩ rfl) rfl) ?_
  refine run_ret (ev_tupL (ev_lcP (List.range w.gs.length) nD (isNever w) nD (fun g => [.va dw, .va (encW w), .va (nD g)]) (ei_range1 (ea_cons (ev_lenG rfl) ea_nil) (by omega)) (by simp; omega) rfl (fun x _ => eg_name 2) (fun x hx => ?_) (fun x _ _ => (ev_var rfl)) (fun _ _ => rfl) (by simp))) rfl
  exact et_test (ev_callD (ds := [_, _]) (ea_cons (ev_var rfl) (ea_cons (ev_var rfl) ea_nil)) ⟨w, x, hw.ok, List.mem_range.mp hx, rfl, rfl⟩ rfl)
def r_rivals (ds : List D) (r : Option D) : Prop := ∃ (w : Web) (g : Nat) (dw : D), InW w dw ∧ g < w.gs.length ∧ ds = [dw, nD g] ∧ r = some (nT (rivals w g))
theorem cal_rivals (T : Txt K mg C) (Dx : DefAt K mg "rivals" s_rivals f fd) (c_barring_in : CalD P w K mg base 3 "barring_in" ["web", "lot"] (spD C 2 r_barring_in)) (c_is_never : CalD P w K mg base 4 "is_never" ["web", "guest"] (spD C 2 r_is_never)) (c_set_of : CalD P w K mg base 1 "set_of" ["row"] (spD C 1 r_set_of)) (c_sure_guest : CalD P w K mg base 3 "sure_guest" ["web", "guest"] (spD C 2 r_sure_guest)) (c_sure_web : CalD P w K mg base 7 "sure_web" ["web"] (spD C 1 r_sure_web)) : CalD P w K mg base 8 "rivals" ["web", "guest"] (spD C 2 r_rivals) := by
  refine mkCal Dx sc_rivals bd_rivals (by decide) fun f cdv A outer s H E hr => have hu := hu_of hr; ⟨_, (pss_cons (ps_set (i := 2) sc_rivals.nd rfl (Or.inl rfl) (pe_d c_sure_web hr (by decide) (by rfl) (pa_cons (pv 0) pa_nil)))
      (pss_cons (ps_set (i := 3) sc_rivals.nd rfl (Or.inl rfl) (pe_d c_sure_guest hr (by decide) (by rfl) (pa_cons (pv 2) (pa_cons (pv 1) pa_nil))))
      (pss_cons (ps_if (pt_val (pe_d c_is_never hr (by decide) (by rfl) (pa_cons (pv 2) (pa_cons (pv 3) pa_nil)))) (pss_one (ps_ret (pe_tup pa_nil))) pss_nil)
      (pss_cons (ps_set (i := 4) sc_rivals.nd rfl (Or.inl rfl) (pe_lst pa_nil))
      (pss_cons (ps_for PassesOwn.never rfl (pi_range1 rfl T.range (pa_cons (pe_callB (crLen K) (by rfl) T.len PySem.boot_len (pa_cons (pe_ix (ixT K) (pv 2) pe_int (fun _ _ => rfl)) pa_nil)) pa_nil)) (pg_name (i := 5) sc_rivals.nd rfl (Or.inl rfl)) (pss_one (ps_if (PW.pt (pw_and (pt_cmpR op_ne (pv 5) (pv 3) (nomark _)) (pw_and (pt_not (pt_val (pe_d c_is_never hr (by decide) (by rfl) (pa_cons (pv 2) (pa_cons (pv 5) pa_nil))))) (pw_and1 (pt_cmpR (opNeD K hr) (pe_d c_barring_in hr (by decide) (by rfl) (pa_cons (pv 2) (pa_cons (pe_d c_set_of hr (by decide) (by rfl) (pa_cons (pe_tup (pa_cons (pv 3) (pa_cons (pv 5) pa_nil))) pa_nil)) pa_nil))) (pe_lst pa_nil) (nomark _)))))) (pss_one (ps_expr (bmL K PySem.F.slot_list_append PySem.F.type_list_append mt_append (pv 4) (pa_cons (pv 5) pa_nil)))) pss_nil)))
      (pss_one (ps_ret (pe_callTy (crTup K) (by rfl) T.tuple (by decide +kernel) (pa_cons (pv 4) pa_nil))))))))), ?_⟩
  rintro ds r _ ⟨w, g, dw, hw, hg, rfl, rfl⟩
  show Run C E _ [.va dw, .va (nD g), .un, .un, .un, .un] _
  have hf := hw.ok.few
  refine run_seq1 (run_set (ev_callD (ds := [_]) (ea_cons (ev_var rfl) ea_nil) ⟨dw, w, hw.ok, hw.tup, hw.dep, hw.wid, rfl, rfl⟩ rfl) rfl) ?_
  refine run_seq1 (run_set (ev_callD (ds := [_, _]) (ea_cons (ev_var rfl) (ea_cons (ev_var rfl) ea_nil)) ⟨w, g, hw.ok, hg, rfl, rfl⟩ rfl) rfl) ?_
  refine run_seq (fun ρ => isNever w g = false ∧ ρ = [.va dw, .va (nD g), .va (encW w), .va (nD g), .un, .un]) (run_if (et_test (ev_callD (ds := [_, _]) (ea_cons (ev_var rfl) (ea_cons (ev_var rfl) ea_nil)) ⟨w, g, hw.ok, hg, rfl, rfl⟩ rfl)) (fun hb => run_ret (ev_tup (xs := []) ea_nil (by simp)) ?_) fun hb => run_next ⟨hb, rfl⟩) ?_
  · show some _ = some _
    unfold rivals
    rw [if_pos hb] <;> rfl
  rintro _ ⟨hb, rfl⟩
  have hrv : rivals w g = (List.range w.gs.length).filter fun h => !decide (h = g) && (!isNever w h && !(barringIn w (setOf [g, h])).isEmpty) := by
    unfold rivals
    rw [if_neg (by rw [hb]; exact Bool.false_ne_true)]
  rw [hrv]
  generalize hq : (fun h => !decide (h = g) && (!isNever w h && !(barringIn w (setOf [g, h])).isEmpty)) = q
  refine run_seq1 (run_set (ev_lst (xs := []) ea_nil (by simp)) rfl) ?_
  refine run_seq (fun ρ => ∃ u5, ρ = [.va dw, .va (nD g), .va (encW w), .va (nD g), .ow (nL ((List.range w.gs.length).filter q)), u5])
    (run_forP (List.range w.gs.length) nD (fun pre ρ => ∃ u5, ρ = [.va dw, .va (nD g), .va (encW w), .va (nD g), .ow (nL (pre.filter q)), u5]) (ei_range1 (ea_cons (ev_lenG rfl) ea_nil) (by omega)) ⟨_, rfl⟩ ?_ fun _ h => h) ?_
  · rintro pre h post _ e ⟨u5, rfl⟩
    have hh : h < w.gs.length := List.mem_range.mp (by rw [e]; simp)
    have hpl : pre.length ≤ 100 := by have := congrArg List.length e; simp at this; omega
    have hfl := List.length_filter_le q pre
    have hset : ∀ x ∈ setOf [g, h], x < w.gs.length := fun x hx => by
      have := mem_setOf.mp hx
      simp at this
      omega
    have hsl : (setOf [g, h]).length ≤ 100 := by
      have := len_of_lt ((setOf_asc [g, h]).imp fun h => by omega) hset
      omega
    have hb1 : EvT (tTest (tOp (rNe) (tVar 5) (tVar 3))) [.va dw, .va (nD g), .va (encW w), .va (nD g), .ow (nL (pre.filter q)), .va (nD h)] [.va dw, .va (nD g), .va (encW w), .va (nD g), .ow (nL (pre.filter q)), .va (nD h)] (!decide (h = g)) := by
      refine EvT.is (et_test (ev_op (ev_var rfl) (ev_var rfl) opv_neI)) ?_
      congr 1
      exact decide_eq_decide.mpr (by omega)
    refine ⟨_, _, eg_name 5, run_if (ρ1 := [.va dw, .va (nD g), .va (encW w), .va (nD g), .ow (nL (pre.filter q)), .va (nD h)]) (b := q h) ?_ (fun hb => ?_) fun hb => run_next ⟨.va (nD h), ?_⟩⟩
    · refine EvT.is ?_ (show (!decide (h = g) && (!isNever w h && !(barringIn w (setOf [g, h])).isEmpty)) = q h by rw [← hq])
      refine et_and hb1 fun _ => et_and (et_not (et_test (EvD.hide (d := nL (pre.filter q)) 4 rfl rfl (ev_callD (ds := [_, _]) (ea_cons (ev_var rfl) (ea_cons (ev_var rfl) ea_nil)) ⟨w, h, hw.ok, hh, rfl, rfl⟩ rfl)))) fun _ => EvT.is (et_test (ev_op (EvD.hide (d := nL (pre.filter q)) 4 rfl rfl (ev_callD (ds := [_, _]) (ea_cons (ev_var rfl) (ea_cons (ev_callD (ds := [_]) (ea_cons (ev_tup (xs := [_, _]) (ea_cons (ev_var rfl) (ea_cons (ev_var rfl) ea_nil)) (by simp)) ea_nil) ⟨[g, h], _, .inl rfl, by simp, rfl, rfl⟩ rfl) ea_nil)) ⟨w, _, hw.ok, hset, hsl, rfl, rfl⟩ rfl)) (EvD.fz (ev_lst (xs := []) ea_nil (by simp))) (opv_ne_nil (eqOk_parts _)))) ?_
      rw [isEmpty_parts]
    · refine run_drop (ev_append rfl (ev_var rfl) rfl (by rw [List.length_map]; omega)) ⟨.va (nD h), ?_⟩
      have : (pre ++ [h]).filter q = pre.filter q ++ [h] := by rw [List.filter_append]; simp [hb]
      rw [this]; simp only [nL, List.map_append]; rfl
    · have : (pre ++ [h]).filter q = pre.filter q := by rw [List.filter_append]; simp [hb]
      rw [this] <;> rfl
  · rintro _ ⟨u5, rfl⟩
    exact run_ret (EvD.frz (i := 4) rfl (ev_tupLv (ev_var rfl))) rfl
def r_lot_grown (ds : List D) (r : Option D) : Prop := ∃ (w : Web) (l : List Nat), w.Ok ∧ Lot w l ∧ Rnd w (othersIn w l) ∧ (l ++ (partsIn w (othersIn w l)).flatMap (grownMore w (othersIn w l))).length < 64 ∧ ds = [encW w, nT l] ∧ r = some (nT (lotGrown w l))
theorem cal_lot_grown (T : Txt K mg C) (Dx : DefAt K mg "lot_grown" s_lot_grown f fd) (c_guests_in : CalD P w K mg base 1 "guests_in" ["web", "lot", "part"] (spD C 3 r_guests_in)) (c_kept_in : CalD P w K mg base 3 "kept_in" ["web", "others", "part", "frees"] (spD C 4 r_kept_in)) (c_others_in : CalD P w K mg base 1 "others_in" ["web", "lot"] (spD C 2 r_others_in)) (c_parts_in : CalD P w K mg base 2 "parts_in" ["web", "lot"] (spD C 2 r_parts_in)) (c_set_of : CalD P w K mg base 1 "set_of" ["row"] (spD C 1 r_set_of)) : CalD P w K mg base 4 "lot_grown" ["web", "lot"] (spD C 2 r_lot_grown) := by
  refine mkCal Dx sc_lot_grown bd_lot_grown (by decide) fun f cdv A outer s H E hr => have hu := hu_of hr; ⟨_, (pss_cons (ps_par (i := 2) (j := 3) rfl sc_lot_grown.nd rfl rfl (by decide) rfl rfl (pa_cons (pe_d c_others_in hr (by decide) (by rfl) (pa_cons (pv 0) (pa_cons (pv 1) pa_nil))) (pa_cons (pe_callTy (crLst K) (by rfl) T.list (by decide +kernel) (pa_cons (pv 1) pa_nil)) pa_nil)) (by rfl))
      (pss_cons (ps_for PassesOwn.never rfl (piL K (pe_d c_parts_in hr (by decide) (by rfl) (pa_cons (pv 0) (pa_cons (pv 2) pa_nil)))) (pg_name (i := 4) sc_lot_grown.nd rfl (Or.inl rfl)) (pss_cons (ps_set (i := 5) sc_lot_grown.nd rfl (Or.inl rfl) (pe_d c_guests_in hr (by decide) (by rfl) (pa_cons (pv 0) (pa_cons (pv 2) (pa_cons (pv 4) pa_nil)))))
      (pss_one (ps_if (pt_cmpR op_gt (pe_callB (crLen K) (by rfl) T.len PySem.boot_len (pa_cons (pv 5) pa_nil)) (pe_callB (crLen K) (by rfl) T.len PySem.boot_len (pa_cons (pv 4) pa_nil)) (nomark _)) (pss_cons (ps_set (i := 6) sc_lot_grown.nd rfl (Or.inr rfl) (pe_d c_kept_in hr (by decide) (by rfl) (pa_cons (pv 0) (pa_cons (pv 2) (pa_cons (pv 4) (pa_cons (pe_lst pa_nil) pa_nil))))))
      (pss_one (ps_expr (bmL K PySem.F.slot_list_extend PySem.F.type_list_extend mt_extend (pv 3) (pa_cons (pe_lc (own := [("guest", 7)]) rfl sc_lot_grown.nd (piT K (pv 5)) (blkOk_by rfl) (fun _ _ _ _ _ => (pg_name (i := 7) sc_lot_grown.nd rfl (Or.inl rfl))) (fun _ _ _ _ _ => (pts_one (pt_cmpR (opNi K) (pv 7) (pv 6) rfl))) (fun _ _ _ _ _ => (pv 7))) pa_nil))))) pss_nil))))
      (pss_one (ps_ret (pe_d c_set_of hr (by decide) (by rfl) (pa_cons (pv 3) pa_nil)))))), ?_⟩
  rintro ds r _ ⟨w, l, hw, hl, hr, h64, rfl, rfl⟩
  show Run C E _ [.va (encW w), .va (nT l), .un, .un, .un, .un, .un, .un] _
  have hlz := lot_len hw hl
  obtain ⟨p1, p2⟩ := partsIn_ok hw (lot := othersIn w l) others_lt
  have oz := others_len hw (l := l)
  have gm : ∀ part, (grownMore w (othersIn w l) part).length ≤ 100 := fun part => by
    unfold grownMore
    split
    · exact Nat.le_trans (List.length_filter_le _ _) (Nat.le_trans (guests_len _ _ _) oz)
    · simp
  refine run_seq1 (run_par (ea_cons (ev_callD (ds := [_, _]) (ea_cons (ev_var rfl) (ea_cons (ev_var rfl) ea_nil)) ⟨w, l, hw, rfl, rfl⟩ rfl) (ea_cons (ev_lstT (ev_var rfl)) ea_nil)) rfl (by decide)) ?_
  refine run_seq (fun ρ => ∃ u4 u5 u6 u7, ρ = [.va (encW w), .va (nT l), .va (nT (othersIn w l)), .ow (nL (l ++ (partsIn w (othersIn w l)).flatMap (grownMore w (othersIn w l)))), u4, u5, u6, u7])
    (run_forP (partsIn w (othersIn w l)) nT (fun pre ρ => ∃ u4 u5 u6, ρ = [.va (encW w), .va (nT l), .va (nT (othersIn w l)), .ow (nL (l ++ pre.flatMap (grownMore w (othersIn w l)))), u4, u5, u6, .un])
      (EvI.hide (d := nL l) 3 rfl rfl (ei_list (ev_callD (ds := [_, _]) (ea_cons (ev_var rfl) (ea_cons (ev_var rfl) ea_nil)) ⟨w, _, hw, others_lt, oz, rfl, rfl⟩ rfl))) ⟨.un, .un, .un, by simp⟩ ?_ fun ρ2 ⟨u4, u5, u6, h⟩ => ⟨u4, u5, u6, _, h⟩) ?_
  · rintro pre part post _ e ⟨u4, u5, u6, rfl⟩
    have hm : part ∈ partsIn w (othersIn w l) := by rw [e]; simp
    have hpl : pre.length ≤ 100 := by have := congrArg List.length e; simp at this; omega
    have hfl := flat_len (f := grownMore w (othersIn w l)) (k := 100) (l := pre) fun x _ => gm x
    have gl := guests_len w (othersIn w l) part
    refine ⟨_, _, eg_name 4, ?_⟩
    refine run_seq1 (run_set (EvD.hide (d := nL (l ++ pre.flatMap (grownMore w (othersIn w l)))) 3 rfl rfl (ev_callD (ds := [_, _, _]) (ea_cons (ev_var rfl) (ea_cons (ev_var rfl) (ea_cons (ev_var rfl) ea_nil))) ⟨w, _, part, others_lt, oz, rfl, rfl⟩ rfl)) rfl) ?_
    refine run_if (EvT.is (et_test (ev_op (ev_lenT (ev_var rfl)) (ev_lenT (ev_var rfl)) opv_bl)) (b' := decide (part.length < (guestsIn w (othersIn w l) part).length)) ?_) (fun hb => ?_) fun hb => run_next ⟨.va (nT part), .va (nT (guestsIn w (othersIn w l) part)), u6, ?_⟩
    · rw [List.length_map, List.length_map]; simp
    · have hc : part.length < (guestsIn w (othersIn w l) part).length := of_decide_eq_true hb
      have ht : isTree w (othersIn w l) part = false := by
        unfold isTree
        exact decide_eq_false (by omega)
      have eg : grownMore w (othersIn w l) part = (guestsIn w (othersIn w l) part).filter fun g => !decide (g ∈ keptIn w (othersIn w l) part []) := by
        unfold grownMore; rw [if_pos hc]
      have hfz := List.length_filter_le (fun g => !decide (g ∈ keptIn w (othersIn w l) part [])) (guestsIn w (othersIn w l) part)
      have hkept : r_kept_in [encW w, nT (othersIn w l), nT part, .lst []] (some (nL (keptIn w (othersIn w l) part []))) := ⟨w, _, part, [], hw, others_lt, oz, by have := (p2 part hm).2.2.1; omega, hr part hm, rfl, rfl⟩
      refine run_seq1 (run_set (EvD.hide (d := nL (l ++ pre.flatMap (grownMore w (othersIn w l)))) 3 rfl rfl (ev_callD (ds := [_, _, _, _]) (ea_cons (ev_var rfl) (ea_cons (ev_var rfl) (ea_cons (ev_var rfl) (ea_cons (EvD.fz (ev_lst (xs := []) ea_nil (by simp))) ea_nil)))) hkept rfl)) rfl) ?_
      refine run_drop (ev_extend rfl (EvD.fz (ev_lcP (guestsIn w (othersIn w l) part) nD (fun g => !decide (g ∈ keptIn w (othersIn w l) part [])) nD (fun x => [.va (encW w), .va (nT l), .va (nT (othersIn w l)), .ow (nL (l ++ pre.flatMap (grownMore w (othersIn w l)))), .va (nT part), .va (nT (guestsIn w (othersIn w l) part)), .va (nL (keptIn w (othersIn w l) part [])), .va (nD x)]) (ei_tup (ev_var rfl)) (by omega) rfl (fun x _ => eg_name 7) (fun x hx => et_test (ev_op (ev_var rfl) (ev_var rfl) opv_ni_nL)) (fun x _ _ => (ev_var rfl)) (fun _ _ => rfl) (by simp))) rfl (by rw [List.length_map, List.length_map, List.length_append]; omega)) ⟨.va (nT part), .va (nT (guestsIn w (othersIn w l) part)), .va (nL (keptIn w (othersIn w l) part [])), ?_⟩
      rw [← eg]
      simp only [nL, List.flatMap_append, List.map_append, List.flatMap_cons, List.flatMap_nil, List.append_nil, List.append_assoc]
      rfl
    · have eg : grownMore w (othersIn w l) part = [] := by
        unfold grownMore; rw [if_neg (of_decide_eq_false hb)]
      simp only [List.flatMap_append, List.flatMap_cons, List.flatMap_nil, List.append_nil, eg]
      rfl
  · rintro _ ⟨u4, u5, u6, u7, rfl⟩
    exact run_ret (EvD.frz (i := 3) rfl (ev_callD (ds := [_]) (ea_cons (ev_var rfl) ea_nil) ⟨_, _, .inr rfl, h64, rfl, rfl⟩ rfl)) rfl
def r_lot_sure (ds : List D) (r : Option D) : Prop := ∃ (w : Web) (l : List Nat) (dw dl : D), InW w dw ∧ InL w l dl ∧ Rnd w (othersIn w l) ∧ (l ++ (partsIn w (othersIn w l)).flatMap (grownMore w (othersIn w l))).length < 64 ∧ ds = [dw, dl] ∧ r = (if (barringIn w l).isEmpty = true then some (.tup [encW w, nT (lotGrown w l)]) else none)
theorem cal_lot_sure (T : Txt K mg C) (Dx : DefAt K mg "lot_sure" s_lot_sure f fd) (c_barring_in : CalD P w K mg base 3 "barring_in" ["web", "lot"] (spD C 2 r_barring_in)) (c_both_sure : CalD P w K mg base 8 "both_sure" ["web", "lot"] (spD C 2 r_both_sure)) (c_lot_grown : CalD P w K mg base 4 "lot_grown" ["web", "lot"] (spD C 2 r_lot_grown)) : CalD P w K mg base 9 "lot_sure" ["web", "lot"] (spD C 2 r_lot_sure) := by
  refine mkCalX Dx sc_lot_sure bd_lot_sure (by decide) fun f cdv A outer s H E hr ds r hn hrel => have hu := hu_of hr; ⟨_, (pss_cons (ps_asg (pe_d c_both_sure hr (by decide) (by rfl) (pa_cons (pv 0) (pa_cons (pv 1) pa_nil))) (pgT K (n := 2) (pgs_cons (pg_name (i := 2) sc_lot_sure.nd rfl (Or.inl rfl)) (pgs_cons (pg_name (i := 3) sc_lot_sure.nd rfl (Or.inl rfl)) pgs_nil))))
      (pss_cons (ps_if (pt_cmpR (opNeD K hr) (pe_d c_barring_in hr (by decide) (by rfl) (pa_cons (pv 2) (pa_cons (pv 3) pa_nil))) (pe_lst pa_nil) (nomark _)) (pss_one (psCan T (by rfl))) pss_nil)
      (pss_one (ps_ret (pe_tup (pa_cons (pv 2) (pa_cons (pe_d c_lot_grown hr (by decide) (by rfl) (pa_cons (pv 2) (pa_cons (pv 3) pa_nil))) pa_nil))))))), ?_⟩
  obtain ⟨w, l, dw, dl, hw, hl, hr, h64, rfl, rfl⟩ := hrel
  show Run C E _ [.va dw, .va dl, .un, .un] _
  refine run_seq1 (run_asg (ev_callD (ds := [_, _]) (ea_cons (ev_var rfl) (ea_cons (ev_var rfl) ea_nil)) ⟨w, l, dw, dl, hw, hl, rfl, rfl⟩ rfl) (eg_tup (egs_name (egs_name egs_nil)) rfl) rfl) ?_
  refine run_seq (fun ρ => (barringIn w l).isEmpty = true ∧ ρ = [.va dw, .va dl, .va (encW w), .va (nT l)]) (run_if (EvT.is (et_test (ev_op (ev_callD (ds := [_, _]) (ea_cons (ev_var rfl) (ea_cons (ev_var rfl) ea_nil)) ⟨w, l, hw.ok, hl.lot.lt, lot_len hw.ok hl.lot, rfl, rfl⟩ rfl) (EvD.fz (ev_lst (xs := []) ea_nil (by simp))) (opv_ne_nil (eqOk_parts _)))) (b' := !(barringIn w l).isEmpty) (by rw [isEmpty_parts])) (fun hb => run_raise ?_) fun hb => run_next ⟨by simpa using hb, rfl⟩) ?_
  · show (if _ then _ else _) = none
    rw [if_neg (by simpa using hb)]
  · rintro _ ⟨hb, rfl⟩
    rw [if_pos hb]
    exact run_ret (ev_tup (xs := [_, _]) (ea_cons (ev_var rfl) (ea_cons (ev_callD (ds := [_, _]) (ea_cons (ev_var rfl) (ea_cons (ev_var rfl) ea_nil)) ⟨w, l, hw.ok, hl.lot, hr, h64, rfl, rfl⟩ rfl) ea_nil)) (by simp)) rfl
theorem bk_lot_with : BindK "lot_with" s_lot_with ["web", "lot"] := fun _ _ _ _ _ _ us ws hl => by
  rcases us with _ | ⟨a, _ | ⟨b, _ | ⟨c, us⟩⟩⟩ <;> rcases ws with _ | ⟨d, _ | ⟨e, _ | ⟨g, ws⟩⟩⟩ <;> first | rfl | (simp at hl; try omega)
def r_lot_with (ds : List D) (r : Option D) : Prop := ∃ (w : Web) (l : List Nat) (dw dl : D), InW w dw ∧ InL w l dl ∧ Rnd w (othersIn w l) ∧ (l ++ (partsIn w (othersIn w l)).flatMap (grownMore w (othersIn w l))).length < 64 ∧ barringIn w l = [] ∧ ds = [dw, dl] ∧ r = some (nT (lotGrown w l))
theorem cal_lot_with (T : Txt K mg C) (Dx : DefAt K mg "lot_with" s_lot_with f fd) (c_lot_sure : CalD P w K mg base 9 "lot_sure" ["web", "lot"] (spD C 2 r_lot_sure)) : CalK P w K mg base 10 "lot_with" ["web", "lot"] (spD C 2 r_lot_with) := by
  refine mkCalK Dx sc_lot_with bd_lot_with bk_lot_with (by decide) fun f cdv A outer s H E hr ds r hn hrel => have hu := hu_of hr; ⟨_, PSs.nox (pss_one (ps_ret (pe_ix (ixT K) (pe_d c_lot_sure hr (by decide) (by rfl) (pa_cons (pv 0) (pa_cons (pv 1) pa_nil))) pe_int (fun _ _ => rfl)))), ?_⟩
  obtain ⟨w, l, dw, dl, hw, hl, hr, h64, hb, rfl, rfl⟩ := hrel
  show Run C E _ [.va dw, .va dl] _
  exact run_ret (ev_ixT (ev_callD (ds := [_, _]) (d := .tup [encW w, nT (lotGrown w l)]) (ea_cons (ev_var rfl) (ea_cons (ev_var rfl) ea_nil)) ⟨w, l, dw, dl, hw, hl, hr, h64, rfl, by rw [hb] <;> rfl⟩ rfl) (ev_c fun _ => .int _) rfl) rfl
theorem bk_order_with : BindK "order_with" s_order_with ["web", "lot"] := fun _ _ _ _ _ _ us ws hl => by
  rcases us with _ | ⟨a, _ | ⟨b, _ | ⟨c, us⟩⟩⟩ <;> rcases ws with _ | ⟨d, _ | ⟨e, _ | ⟨g, ws⟩⟩⟩ <;> first | rfl | (simp at hl; try omega)
def r_order_with (ds : List D) (r : Option D) : Prop := ∃ (w : Web) (l : List Nat) (dw dl : D), InW w dw ∧ InL w l dl ∧ Rnd w (othersIn w l) ∧ (l ++ (partsIn w (othersIn w l)).flatMap (grownMore w (othersIn w l))).length < 64 ∧ (barringIn w l = [] → Lot w (lotGrown w l) ∧ Rnd w (othersIn w (lotGrown w l)) ∧ badIn w (lotGrown w l) = []) ∧ ds = [dw, dl] ∧ r = (if (barringIn w l).isEmpty = true then some (nT (orderInLot w (lotGrown w l))) else none)
theorem cal_order_with (T : Txt K mg C) (Dx : DefAt K mg "order_with" s_order_with f fd) (c_lot_sure : CalD P w K mg base 9 "lot_sure" ["web", "lot"] (spD C 2 r_lot_sure)) (c_order_in_lot : CalD P w K mg base 5 "order_in_lot" ["web", "lot"] (spD C 2 r_order_in_lot)) : CalK P w K mg base 10 "order_with" ["web", "lot"] (spD C 2 r_order_with) := by
  refine mkCalK Dx sc_order_with bd_order_with bk_order_with (by decide) fun f cdv A outer s H E hr ds r hn hrel => have hu := hu_of hr; ⟨_, (pss_cons (ps_asg (pe_dX c_lot_sure hr (by decide) (by rfl) passC (pa_cons (pv 0) (pa_cons (pv 1) pa_nil))) (pgT K (n := 2) (pgs_cons (pg_name (i := 2) sc_order_with.nd rfl (Or.inl rfl)) (pgs_cons (pg_name (i := 3) sc_order_with.nd rfl (Or.inl rfl)) pgs_nil))))
      (pss_one (ps_ret (pe_d c_order_in_lot hr (by decide) (by rfl) (pa_cons (pv 2) (pa_cons (pv 3) pa_nil)))))), ?_⟩
  obtain ⟨w, l, dw, dl, hw, hl, hr, h64, hg, rfl, rfl⟩ := hrel
  show Run C E _ [.va dw, .va dl, .un, .un] _
  by_cases hb : (barringIn w l).isEmpty = true
  · rw [if_pos hb]
    obtain ⟨g1, g2, g3⟩ := hg (List.isEmpty_iff.mp hb)
    refine run_seq1 (run_asg (ev_callD (ds := [_, _]) (d := .tup [encW w, nT (lotGrown w l)]) (ea_cons (ev_var rfl) (ea_cons (ev_var rfl) ea_nil)) ⟨w, l, dw, dl, hw, hl, hr, h64, rfl, by rw [if_pos hb]⟩ rfl) (eg_tup (egs_name (egs_name egs_nil)) rfl) rfl) ?_
    exact run_ret (ev_callD (ds := [_, _]) (ea_cons (ev_var rfl) (ea_cons (ev_var rfl) ea_nil)) ⟨w, _, hw.ok, g1, g2, g3, rfl, rfl⟩ rfl) rfl
  · rw [if_neg hb]
    exact run_seqX (run_asgX (rz_call (ds := [_, _]) (ea_cons (ev_var rfl) (ea_cons (ev_var rfl) ea_nil)) ⟨w, l, dw, dl, hw, hl, hr, h64, rfl, by rw [if_neg hb]⟩ rfl) rfl)
theorem bk_why_never : BindK "why_never" s_why_never ["web", "lot"] := fun _ _ _ _ _ _ us ws hl => by
  rcases us with _ | ⟨a, _ | ⟨b, _ | ⟨c, us⟩⟩⟩ <;> rcases ws with _ | ⟨d, _ | ⟨e, _ | ⟨g, ws⟩⟩⟩ <;> first | rfl | (simp at hl; try omega)
def r_why_never (ds : List D) (r : Option D) : Prop := ∃ (w : Web) (l : List Nat) (dw dl : D), InW w dw ∧ InL w l dl ∧ ds = [dw, dl] ∧ r = (barringIn w l).head?.map nT
theorem cal_why_never (T : Txt K mg C) (Dx : DefAt K mg "why_never" s_why_never f fd) (c_barring_in : CalD P w K mg base 3 "barring_in" ["web", "lot"] (spD C 2 r_barring_in)) (c_both_sure : CalD P w K mg base 8 "both_sure" ["web", "lot"] (spD C 2 r_both_sure)) : CalK P w K mg base 9 "why_never" ["web", "lot"] (spD C 2 r_why_never) := by
  refine mkCalK Dx sc_why_never bd_why_never bk_why_never (by decide) fun f cdv A outer s H E hr ds r hn hrel => have hu := hu_of hr; ⟨_, (pss_cons (ps_asg (pe_d c_both_sure hr (by decide) (by rfl) (pa_cons (pv 0) (pa_cons (pv 1) pa_nil))) (pgT K (n := 2) (pgs_cons (pg_name (i := 2) sc_why_never.nd rfl (Or.inl rfl)) (pgs_cons (pg_name (i := 3) sc_why_never.nd rfl (Or.inl rfl)) pgs_nil))))
      (pss_cons (ps_set (i := 4) sc_why_never.nd rfl (Or.inl rfl) (pe_d c_barring_in hr (by decide) (by rfl) (pa_cons (pv 2) (pa_cons (pv 3) pa_nil))))
      (pss_cons (ps_if (pt_cmpR (opEqD K hr) (pv 4) (pe_lst pa_nil) (nomark _)) (pss_one (psCan T (by rfl))) pss_nil)
      (pss_one (ps_ret (pe_ix (ixL K) (pv 4) pe_int (fun _ _ => rfl))))))), ?_⟩
  obtain ⟨w, l, dw, dl, hw, hl, rfl, rfl⟩ := hrel
  show Run C E _ [.va dw, .va dl, .un, .un, .un] _
  refine run_seq1 (run_asg (ev_callD (ds := [_, _]) (ea_cons (ev_var rfl) (ea_cons (ev_var rfl) ea_nil)) ⟨w, l, dw, dl, hw, hl, rfl, rfl⟩ rfl) (eg_tup (egs_name (egs_name egs_nil)) rfl) rfl) ?_
  refine run_seq1 (run_set (ev_callD (ds := [_, _]) (ea_cons (ev_var rfl) (ea_cons (ev_var rfl) ea_nil)) ⟨w, l, hw.ok, hl.lot.lt, lot_len hw.ok hl.lot, rfl, rfl⟩ rfl) rfl) ?_
  refine run_seq (fun ρ => (barringIn w l).isEmpty = false ∧ ρ = [.va dw, .va dl, .va (encW w), .va (nT l), .va (.lst ((barringIn w l).map nT))]) (run_if (EvT.is (et_test (ev_op (ev_var rfl) (EvD.fz (ev_lst (xs := []) ea_nil (by simp))) (opv_eq_nil (eqOk_parts _)))) (b' := (barringIn w l).isEmpty) (by rw [isEmpty_parts])) (fun hb => run_raise ?_) fun hb => run_next ⟨hb, rfl⟩) ?_
  · rw [List.isEmpty_iff.mp hb] <;> rfl
  · rintro _ ⟨hb, rfl⟩
    cases e : barringIn w l with
    | nil => rw [e] at hb; cases hb
    | cons p rest => exact run_ret (ev_ixL (ev_var rfl) (ev_c fun _ => .int _) (d := nT p) (atI_nat (j := 0) rfl)) rfl
end
end K17
end

section
set_option maxRecDepth 100000
set_option maxHeartbeats 4000000
namespace K17
open PySem PySem.Spec PyProof.Rows L2 DL MN
/-! beside_by: a dict of lists that grow -/
section
variable {t : Addr} {G0 H0 G H : Hp} {ρ ρ1 : En} {σ : L2.St} {n : Nat} {d : Addr} {a : Nat → Addr} {f : Nat → List (Nat × Nat)}
theorem noOw_va {d : D} : noOw (.va d) = true := rfl
theorem noOw_un : noOw .un = true := rfl
theorem Mt.rebase {A B A' B' G' H' : Hp} (m : Mt t A B ρ G H σ) (h : ρ.all noOw = true) (g : Gr A' B' G' H') (sg : Same G G') : Mt t A' B' ρ G' H' σ := by
  have no : ∀ {i : Nat} {r : Sl}, ρ[i]? = some r → noOw r = true := fun {i r} e => List.all_eq_true.mp h r (List.mem_of_getElem? e)
  refine ⟨g, m.len, fun i r v h1 h2 => ?_, fun i j r s v u b _ h1 _ _ _ e1 _ => ?_⟩
  · have q := m.ok i r v h1 h2
    have z := no h1
    cases r with
    | un => exact True.intro
    | va d => obtain ⟨u, e, w⟩ := q; exact ⟨u, e, w.up sg⟩
    | ow d => cases z
    | ti d => cases z
  · have z := no h1
    cases r with
    | un => cases e1
    | va d => cases e1
    | ow d => cases z
    | ti d => cases z
abbrev kvsA (n : Nat) (a : Nat → Addr) : List (Key × V) := (List.range n).map fun p => (Sum.inl ((p : Nat) : Int), V.ref (a p))
structure Bs (t : Addr) (G0 H0 : Hp) (n : Nat) (d : Addr) (a : Nat → Addr) (f : Nat → List (Nat × Nat)) (ρ : En) (G H : Hp) (σ : L2.St) : Prop where
  m : Mt t G0 H0 ρ G H σ
  no : ρ.all noOw = true
  sd : σ[2]? = some (some (.ref d))
  hd : H d = some (.dK (kvsA n a))
  gd : G d = none
  h0d : H0 d = none
  la : ∀ p, p < n → ∃ xs, H (a p) = some (.lst xs) ∧ Reps G xs ((f p).map encP)
  lg : ∀ p, p < n → G (a p) = none ∧ H0 (a p) = none ∧ a p ≠ d
  inj : ∀ p q, p < n → q < n → a p = a q → p = q
theorem Bs.grow {G' H' : Hp} {σ' : L2.St} (b : Bs t G0 H0 n d a f ρ G H σ) (g : Gr G H G' H') (m' : Mt t G0 H0 ρ1 G' H' σ') (no : ρ1.all noOw = true) (sd : σ'[2]? = some (some (.ref d))) : Bs t G0 H0 n d a f ρ1 G' H' σ' where
  m := m'
  no := no
  sd := sd
  hd := g.h _ _ b.hd
  gd := g.n d b.gd (by rw [b.hd]; exact fun z => nomatch z)
  h0d := b.h0d
  la := fun p hp => by obtain ⟨xs, h1, h2⟩ := b.la p hp; exact ⟨xs, g.h _ _ h1, h2.up g.g⟩
  lg := fun p hp => by
    obtain ⟨h1, h2, h3⟩ := b.lg p hp
    obtain ⟨xs, e, _⟩ := b.la p hp
    exact ⟨g.n _ h1 (by rw [e]; exact fun z => nomatch z), h2, h3⟩
  inj := b.inj
theorem Bs.base (b : Bs t G0 H0 n d a f ρ G H σ) : Mt t G H ρ G H σ := Mt.rebase b.m b.no (Gr.refl b.m.gr.gh) (Same.refl _)
theorem Bs.ev {te : TE} {x : D} {Q : VK} (b : Bs t G0 H0 n d a f ρ G H σ) (h : EvD te ρ ρ1 (.va x)) (h1 : ρ1.all noOw = true) (q : ∀ v G' H', Same G G' → Bs t G0 H0 n d a f ρ1 G' H' σ → Rep G' v x → Q v H') : te σ H Q :=
  h.go b.base fun v G' H' m' => q v G' H' m'.gr.g (b.grow m'.gr (Mt.rebase m'.pop h1 (b.m.gr.trans m'.gr) (Same.refl _)) h1 b.sd) m'.last.rep
theorem Bs.al {G' H' : Hp} (b : Bs t G0 H0 n d a f ρ G H σ) (al : Al G H G' H') : Bs t G0 H0 n d a f ρ G' H' σ := by
  have m1 := b.base.al al
  exact b.grow m1.gr (b.m.al al) b.no b.sd
theorem Bs.set {i : Nat} {v : V} {x : D} (b : Bs t G0 H0 n d a f ρ G H σ) (hi : i ≠ 2) (w : Rep G v x) (h1 : (ρ.set i (.va x)).all noOw = true) : Bs t G0 H0 n d a f (ρ.set i (.va x)) G H (σ.set i (some v)) := by
  have m' := (show Mt t G0 H0 (ρ ++ [] ++ [.va x]) G H (σ ++ [] ++ [some v]) by simpa using b.m.push w).store (by simpa using b.m.len) i
  rw [List.append_nil, List.append_nil] at m'
  exact b.grow (Gr.refl b.m.gr.gh) m' h1 (by rw [List.getElem?_set_ne hi]; exact b.sd)
theorem valA {p : Nat} (hp : p < n) : valV (kvsA n a) (Sum.inl ((p : Nat) : Int)) = some (.ref (a p)) := by
  have key : ∀ (m s : Nat), s ≤ p → p < s + m → valV ((List.range' s m).map fun p => ((Sum.inl ((p : Nat) : Int), V.ref (a p)) : Key × V)) (Sum.inl ((p : Nat) : Int)) = some (.ref (a p)) := by
    intro m
    induction m with
    | zero => intro s h1 h2; omega
    | succ m ih =>
      intro s h1 h2
      rw [List.range'_succ, List.map_cons]
      by_cases e : s = p
      · subst e; exact valV_pos rfl
      · rw [valV_neg (fun z => e (by have := Sum.inl.inj z; omega))]
        exact ih (s + 1) (by omega) (by omega)
  unfold kvsA
  rw [List.range_eq_range']
  exact key n 0 (Nat.zero_le _) (by omega)
theorem putA : putK (kvsA n a) (Sum.inl ((n : Nat) : Int)) (.ref p) = kvsA (n + 1) fun q => if q = n then p else a q := by
  have hno : ((kvsA n a).any fun kv => decide (kv.1 = Sum.inl ((n : Nat) : Int))) = false := by
    rw [List.any_eq_false]
    intro kv hk
    obtain ⟨q, hq, rfl⟩ := List.mem_map.mp hk
    have := List.mem_range.mp hq
    simp
    omega
  unfold putK
  rw [if_neg (by rw [hno]; exact Bool.false_ne_true)]
  unfold kvsA
  rw [List.range_succ, List.map_append]
  congr 1
  · refine List.map_congr_left fun q hq => ?_
    have := List.mem_range.mp hq
    show ((Sum.inl ((q : Nat) : Int), V.ref (a q)) : Key × V) = (Sum.inl ((q : Nat) : Int), V.ref (if q = n then p else a q))
    rw [if_neg (by omega)]
  · simp
/-- found[n] = [] -/
theorem Bs.put {Ds : Ends} (b : Bs t G0 H0 n d a f ρ G H σ) (hn : n < 1000) (h3 : ρ[3]? = some (.va (nD n))) (hf : f n = []) (q : ∀ a' H', Bs t G0 H0 (n + 1) d a' f ρ G H' σ → Ds.nx σ H') : sDPut (tVar 2) (tVar 3) (tLst tNil) Ds σ H := by
  refine ⟨by show ([] : List V).length ≤ sizeLine; exact Nat.zero_le _, fun p hp => ?_⟩
  obtain ⟨u, hu, w⟩ := b.m.va h3
  cases w
  refine ⟨_, b.sd, _, hu, d, _, rfl, DPut.k (kvs := kvsA n a) (k := Sum.inl ((n : Nat) : Int)) ?_ ?_, ?_⟩
  · rw [upd_ne (ne_of_none b.hd hp)]; exact b.hd
  · rw [List.length_map, List.length_range]; exact small_lt (by omega)
  · have hpd : p ≠ d := fun e => by rw [e, b.hd] at hp; cases hp
    have hpa : ∀ q, q < n → a q ≠ p := fun q hq e => by
      obtain ⟨xs, h1, _⟩ := b.la q hq
      rw [e, hp] at h1; cases h1
    have gp : G p = none := b.m.gr.gh.free hp
    have h0 : H0 p = none := b.m.gr.h.free hp
    rw [putA]
    refine q _ _ ⟨Mt.rebase b.m b.no ((b.m.gr.mut (o := .lst []) gp h0).mut b.gd b.h0d) (Same.refl _), b.no, b.sd, upd_same, b.gd, b.h0d, fun q hq => ?_, fun q hq => ?_, fun q r hq hr e => ?_⟩
    · by_cases e : q = n
      · subst e
        refine ⟨[], ?_, ?_⟩
        · rw [if_pos rfl, upd_ne hpd, upd_same]
        · rw [hf]; exact .nil
      · rw [if_neg e]
        obtain ⟨xs, h1, h2⟩ := b.la q (by omega)
        refine ⟨xs, ?_, h2⟩
        rw [upd_ne (b.lg q (by omega)).2.2, upd_ne (hpa q (by omega))]; exact h1
    · by_cases e : q = n
      · subst e; rw [if_pos rfl]; exact ⟨gp, h0, hpd⟩
      · rw [if_neg e]; exact b.lg q (by omega)
    · by_cases e1 : q = n
      · by_cases e2 : r = n
        · omega
        · rw [if_pos e1, if_neg e2] at e; exact absurd e.symm (hpa r (by omega))
      · by_cases e2 : r = n
        · rw [if_neg e1, if_pos e2] at e; exact absurd e (hpa q (by omega))
        · rw [if_neg e1, if_neg e2] at e; exact b.inj q r (by omega) (by omega) e
/-- found[p].append((g, q)) -/
theorem Bs.app {K : PySem.W.Frag} {Ds : Ends} {i j p g q : Nat} (b : Bs t G0 H0 n d a f ρ G H σ) (hp : p < n) (hi : ρ[i]? = some (.va (nD p))) (hg : ρ[4]? = some (.va (nD g))) (hj : ρ[j]? = some (.va (nD q))) (hz : (f p).length < 1000)
    (k : ∀ G' H', Same G G' → Bs t G0 H0 n d a (fun r => if r = p then f r ++ [(g, q)] else f r) ρ G' H' σ → Ds.nx σ H') : tDrop (tBM K "list" rAppend (tDGet (tVar 2) (tVar i)) (tCons (tTup (tCons (tVar 4) (tCons (tVar j) tNil))) tNil)) Ds σ H := by
  obtain ⟨u, hu, w⟩ := b.m.va hi
  cases w
  obtain ⟨ys, hl, _⟩ := b.la p hp
  have hv := valA (a := a) hp
  refine ⟨_, b.sd, _, hu, d, .ref (a p), rfl, hv ▸ DGet.k (k := Sum.inl ((p : Nat) : Int)) b.hd, .inl ⟨rfl, ys, SqL.of hl⟩, ?_⟩
  refine b.ev (ρ1 := ρ) (ev_tup (xs := [nD g, nD q]) (ea_cons (ev_var hg) (ea_cons (ev_var hj) ea_nil)) (by simp)) b.no fun v G' H' s b' w => ?_
  obtain ⟨xs, h1, h2⟩ := b'.la p hp
  have hxl : xs.length < sizeLine := by rw [h2.length, List.length_map]; exact small_lt (by omega)
  refine ⟨a p, xs, v, rfl, rfl, h1, hxl, ?_⟩
  obtain ⟨g1, g2, g3⟩ := b'.lg p hp
  refine k G' _ s ⟨Mt.rebase b'.m b'.no (b'.m.gr.mut g1 g2) (Same.refl _), b'.no, b'.sd, ?_, b'.gd, b'.h0d, fun r hr => ?_, b'.lg, b'.inj⟩
  · rw [upd_ne (Ne.symm g3)]; exact b'.hd
  · by_cases e : r = p
    · subst e
      refine ⟨xs ++ [v], upd_same, ?_⟩
      rw [if_pos rfl, List.map_append]
      exact h2.append (.cons w .nil)
    · obtain ⟨zs, q1, q2⟩ := b'.la r hr
      refine ⟨zs, ?_, ?_⟩
      · rw [upd_ne (fun z => e (b'.inj r p hr hp z))]; exact q1
      · rw [if_neg e]; exact q2
/-- a loop over immutable things -/
theorem forB {wi : TI} {g : TG} {tb : TS} {ds : List D} {Ds : Ends} (hi : EvI wi ρ ρ1 ds) (h1 : ρ1.all noOw = true) (b : Bs t G0 H0 n d a f ρ G H σ) (S : Nat → Hp → L2.St → Hp → Prop)
    (hgh : ∀ i G σ H, S i G σ H → Same G H) (hal : ∀ i G H G' H' σ, S i G σ H → Al G H G' H' → S i G' σ H') (h0 : ∀ G' H', Bs t G0 H0 n d a f ρ1 G' H' σ → S 0 G' σ H')
    (turn : ∀ i x G σ H v, ds[i]? = some x → S i G σ H → Rep G v x → ∀ N : L2.St → Hp → Prop, (∀ G' σ' H', Same G G' → S (i + 1) G' σ' H' → N σ' H') → g v σ H fun σ2 H2 => tb { Ds with nx := N, ct := N, bk := Ds.nx } σ2 H2)
    (hd : ∀ G σ H, S ds.length G σ H → Ds.nx σ H) : tFor wi g tb Ds σ H := by
  refine hi t G H [] [] G H σ b.m.len b.base.nil _ fun J G1 H1 m1 it => ?_
  have m1 : Mt t G H ρ1 G1 H1 σ := by simpa using m1
  have b1 : Bs t G0 H0 n d a f ρ1 G1 H1 σ := b.grow m1.gr (Mt.rebase m1 h1 (b.m.gr.trans m1.gr) (Same.refl _)) h1 b.sd
  refine ⟨fun i k σ' H' => k = ds.length - i ∧ i ≤ ds.length ∧ ∃ G', Same G1 G' ∧ S i G' σ' H', ⟨_, rfl, Nat.zero_le _, G1, Same.refl _, h0 _ _ b1⟩, ?_⟩
  rintro i k σ' H' ⟨rfl, hin, G', s1, hs⟩
  by_cases hlt : i < ds.length
  · refine .inr ⟨it.go i G' H' s1 (hgh _ _ _ _ hs) hlt, fun σ'' H'' => ∃ G', Same G1 G' ∧ S (i + 1) G' σ'' H'', fun σ'' H'' w => ⟨ds.length - (i + 1), by omega, rfl, hlt, w⟩, fun v H2 y => ?_⟩
    obtain ⟨G2, al, rv⟩ := it.yld i (ds[i]) G' H' v H2 s1 (hgh _ _ _ _ hs) (List.getElem?_eq_getElem hlt) y
    have s2 : Same G1 G2 := s1.trans (al.grows (hgh _ _ _ _ hs))
    exact turn i ds[i] G2 σ' H2 v (List.getElem?_eq_getElem hlt) (hal _ _ _ _ _ _ hs al) rv _ fun G3 σ3 H3 s3 h3 => ⟨G3, s2.trans s3, h3⟩
  · have ei : i = ds.length := by omega
    subst ei
    exact .inl ⟨it.stop G' H' s1 (hgh _ _ _ _ hs), hd _ _ _ hs⟩
/-- the dict as a value -/
theorem Bs.done {C : Addr} {E : XK} {po : Po} {Ds : Ends} (b : Bs t G0 H0 n d a f ρ G H σ) (sv : Serve C E t G0 H0 po Ds) (hrt : ∀ ρ, po.rt (.dic ((List.range n).map fun (k : Nat) => (k : Int)) ((List.range n).map fun p => .lst ((f p).map encP))) ρ) : tRet (tVar 2) Ds σ H := by
  refine ⟨_, b.sd, ?_⟩
  let O : Addr → Prop := fun x => x = d ∨ ∃ p, p < n ∧ x = a p
  have og : ∀ x, O x → G x = none ∧ H0 x = none := fun x h => by
    rcases h with rfl | ⟨p, hp, rfl⟩
    · exact ⟨b.gd, b.h0d⟩
    · exact ⟨(b.lg p hp).1, (b.lg p hp).2.1⟩
  have sG : Same G (addO O G H) := fun x o e => by
    by_cases h : O x
    · rw [(og x h).1] at e; cases e
    · rw [addO_out h]; exact e
  have gr : Gr G0 H0 (addO O G H) H := by
    refine ⟨b.m.gr.g.trans sG, b.m.gr.h, fun x o e => ?_, fun x h1 h2 => ?_⟩
    · by_cases h : O x
      · rw [addO_in h] at e; exact e
      · rw [addO_out h] at e; exact b.m.gr.gh x o e
    · by_cases h : O x
      · exact absurd (og x h).2 h2
      · rw [addO_out h]; exact b.m.gr.n x h1 h2
  have rl : ∀ l : List Nat, (∀ p ∈ l, p < n) → Reps (addO O G H) (l.map fun p => V.ref (a p)) (l.map fun p => D.lst ((f p).map encP)) := by
    intro l
    induction l with
    | nil => intro _; exact .nil
    | cons p l ih =>
      intro h
      obtain ⟨xs, h1, h2⟩ := b.la p (h p (by simp))
      refine .cons (.lst ?_ (h2.up sG)) (ih fun q hq => h q (List.mem_cons_of_mem _ hq))
      rw [addO_in (.inr ⟨p, h p (by simp), rfl⟩)]; exact h1
  have kz : ∀ l : List Nat, DL.kvsOf (l.map fun (k : Nat) => (k : Int)) (l.map fun p => V.ref (a p)) = l.map fun p => (Sum.inl ((p : Nat) : Int), V.ref (a p)) := by
    intro l
    induction l with
    | nil => rfl
    | cons p l ih =>
      unfold DL.kvsOf at ih ⊢
      simp only [List.map_cons, List.zip_cons_cons]
      rw [ih]
  have rd : Rep (addO O G H) (.ref d) (.dic ((List.range n).map fun (k : Nat) => (k : Int)) ((List.range n).map fun p => .lst ((f p).map encP))) := by
    refine .dic (xs := (List.range n).map fun p => V.ref (a p)) ?_ (by simp) (rl _ fun p hp => List.mem_range.mp hp)
    rw [addO_in (.inl rfl), kz]; exact b.hd
  exact sv.rt _ _ ρ _ H σ (hrt ρ) ((Mt.rebase b.m b.no gr sG).push rd)
end
section
variable {P : Program} {w : World} {K : PySem.W.Frag} {mg : Str → Option Value} {base : Heap} {C : Addr} {f : Addr} {fd : FuncData}
theorem cal_beside_by (T : Txt K mg C) (Dx : DefAt K mg "beside_by" s_beside_by f fd) : CalD P w K mg base 1 "beside_by" ["web", "lot"] (spD C 2 r_beside_by) := by
  refine mkCal Dx sc_beside_by bd_beside_by (by decide) fun f cdv A outer s H E hr => have hu := hu_of hr; ⟨_, (pss_cons (ps_set (i := 2) sc_beside_by.nd rfl (Or.inl rfl) pe_dnewK)
      (pss_cons (ps_for PassesOwn.never rfl (pi_range1 rfl T.range (pa_cons (pe_ix (ixT K) (pv 0) pe_int (fun _ _ => rfl)) pa_nil)) (pg_name (i := 3) sc_beside_by.nd rfl (Or.inl rfl)) (pss_one (ps_dput hu (pv 2) (pv 3) (pe_lst pa_nil) rfl)))
      (pss_cons (ps_for PassesOwn.never rfl (piT K (pv 1)) (pg_name (i := 4) sc_beside_by.nd rfl (Or.inl rfl)) (pss_cons (ps_asg (pe_ix (ixT K) (pe_ix (ixT K) (pv 0) pe_int (fun _ _ => rfl)) (pv 4) (fun _ _ => rfl)) (pgT K (n := 2) (pgs_cons (pg_name (i := 5) sc_beside_by.nd rfl (Or.inl rfl)) (pgs_cons (pg_name (i := 6) sc_beside_by.nd rfl (Or.inl rfl)) pgs_nil))))
      (pss_cons (ps_expr (bmL K PySem.F.slot_list_append PySem.F.type_list_append mt_append (pe_dget hu (pv 2) (pv 5) (fun _ _ => rfl)) (pa_cons (pe_tup (pa_cons (pv 4) (pa_cons (pv 6) pa_nil))) pa_nil)))
      (pss_one (ps_expr (bmL K PySem.F.slot_list_append PySem.F.type_list_append mt_append (pe_dget hu (pv 2) (pv 6) (fun _ _ => rfl)) (pa_cons (pe_tup (pa_cons (pv 4) (pa_cons (pv 5) pa_nil))) pa_nil)))))))
      (pss_one (ps_ret (pv 2)))))), ?_⟩
  rintro ds r _ ⟨w, lot, hw, hl, hz, rfl, rfl⟩
  show Run C E _ [.va (encW w), .va (nT lot), .un, .un, .un, .un, .un] _
  have hs := hw.small
  intro t G0 H0 G H σ m Ds sv
  -- the new dict
  intro d hd
  have m1 : Mt t G0 H0 [.va (encW w), .va (nT lot), .un, .un, .un, .un, .un] G (upd H d (.dK [])) (σ.set 2 (some (.ref d))) := by
    have z := (show Mt t G0 H0 ([.va (encW w), .va (nT lot), .un, .un, .un, .un, .un] ++ [] ++ [.ow (.dic [] [])]) G (upd H d (.dK [])) (σ ++ [] ++ [some (.ref d)]) from by rw [List.append_nil, List.append_nil]; exact m.pushOw (d := .dic [] []) hd ⟨[], upd_same, rfl, .nil⟩).store (by exact m.len) 2
    rw [List.append_nil, List.append_nil] at z
    refine z.sub id (fun _ _ _ _ e => e) (by rw [List.length_set]; exact m.len) fun k r v h1 h2 => ?_
    by_cases hk : k = 2
    · subst hk; cases h1; exact .inl rfl
    · refine .inr ⟨?_, h2⟩
      rw [id, List.getElem?_set_ne (Ne.symm hk)]; exact h1
  have hlen := m.len
  have b0 : Bs t G0 H0 0 d (fun _ => 0) (fun _ => []) [.va (encW w), .va (nT lot), .un, .un, .un, .un, .un] G (upd H d (.dK [])) (σ.set 2 (some (.ref d))) :=
    ⟨m1, rfl, by rw [List.getElem?_set_self (by rw [hlen]; simp)], upd_same, m.gr.gh.free hd, m.gr.h.free hd, fun p hp => by omega, fun p hp => by omega, fun p q hp => by omega⟩
  show tSeq _ _ _ _ _
  -- the empty lists
  refine forB (ds := (List.range w.many).map nD) (ei_range1 (ea_cons (ev_w0 rfl) ea_nil) (by omega)) rfl b0 (fun i G σ H => ∃ a u3, noOw u3 = true ∧ Bs t G0 H0 i d a (fun _ => []) [.va (encW w), .va (nT lot), .un, u3, .un, .un, .un] G H σ)
    (fun i G σ H ⟨a, u3, _, b⟩ => b.m.gr.gh) (fun i G H G' H' σ ⟨a, u3, o, b⟩ al => ⟨a, u3, o, b.al al⟩) (fun G' H' b => ⟨_, .un, rfl, b⟩) (fun i x G σ H v hx ⟨a, u3, o, b⟩ rv N hN => ?_) fun G1 σ1 H1 ⟨a, u3, o3, b⟩ => ?_
  · have hi : i < w.many := by have := (List.getElem?_eq_some_iff.mp hx).1; simpa using this
    have ex : x = nD i := by
      rw [List.getElem?_map, List.getElem?_range hi] at hx
      cases hx; rfl
    subst ex
    have b1 := b.set (i := 3) (by decide) rv rfl
    exact Bs.put b1 (by omega) rfl rfl fun a' H' b2 => hN G _ H' (Same.refl G) ⟨a', _, rfl, b2⟩
  · rw [List.length_map, List.length_range] at b
    show tSeq _ _ _ _ _
    refine forB (ds := lot.map nD) (ei_tup (ev_var rfl)) (by simp [noOw_va, noOw_un, o3]) b (fun i G σ H => ∃ u4 u5 u6, noOw u4 = true ∧ noOw u5 = true ∧ noOw u6 = true ∧ Bs t G0 H0 w.many d a (adj w (lot.take i)) [.va (encW w), .va (nT lot), .un, u3, u4, u5, u6] G H σ)
      (fun i G σ H ⟨_, _, _, _, _, _, b⟩ => b.m.gr.gh) (fun i G H G' H' σ ⟨u4, u5, u6, o4, o5, o6, b⟩ al => ⟨u4, u5, u6, o4, o5, o6, b.al al⟩) (fun G' H' b => ⟨.un, .un, .un, rfl, rfl, rfl, b⟩) (fun i x G σ H v hx ⟨u4, u5, u6, o4, o5, o6, b⟩ rv N hN => ?_) fun G2 σ2 H2 ⟨u4, u5, u6, _, _, _, b⟩ => ?_
    · rw [List.getElem?_map] at hx
      cases hg : lot[i]? with
      | none => rw [hg] at hx; cases hx
      | some g =>
        rw [hg] at hx; cases hx
        have hgl := hl g (List.mem_of_getElem? hg)
        have hgo := g_ok hw hgl
        have b1 := b.set (i := 4) (by decide) rv (by simp [noOw_va, noOw_un, o3, o5, o6])
        show tSeq _ _ _ _ _
        refine Bs.ev b1 (ρ1 := [.va (encW w), .va (nT lot), .un, u3, .va (nD g), u5, u6]) (ev_wg rfl (ev_var rfl) hgl) (by simp [noOw_va, noOw_un, o3, o5, o6]) fun v2 G3 H3 s3 b3 r3 => ?_
        cases r3 with
        | @tup p xs _ q1 q2 =>
          cases q2 with
          | cons q2 q3 =>
            cases q3 with
            | cons q3 q4 =>
              cases q4
              refine ⟨p, _, rfl, SqT.of (b3.m.gr.gh _ _ q1), rfl, _, _, rfl, _, _, rfl, rfl, ?_⟩
              have b5 := (b3.set (i := 5) (by decide) q2 (by simp [noOw_va, noOw_un, o3, o6])).set (i := 6) (by decide) q3 (by simp [noOw_va, noOw_un, o3])
              have al := adj_len w
              have hlt : (lot.take i).length ≤ 100 := by rw [List.length_take]; omega
              have l1 := al (w.g g).1 (lot.take i)
              have l2 := al (w.g g).2 (lot.take i)
              show tSeq _ _ _ _ _
              refine Bs.app b5 hgo.1 rfl rfl rfl (by omega) fun G6 H6 s6 b6 => ?_
              refine Bs.app b6 hgo.2.1 rfl rfl rfl (by rw [if_neg (Ne.symm hgo.2.2)]; omega) fun G7 H7 s7 b7 => ?_
              refine hN G7 _ H7 (s3.trans (s6.trans s7)) ⟨.va (nD g), .va (nD (w.g g).1), .va (nD (w.g g).2), rfl, rfl, rfl, ?_⟩
              have ef : (fun r => if r = (w.g g).2 then (fun r => if r = (w.g g).1 then adj w (lot.take i) r ++ [(g, (w.g g).2)] else adj w (lot.take i) r) r ++ [(g, (w.g g).1)] else (fun r => if r = (w.g g).1 then adj w (lot.take i) r ++ [(g, (w.g g).2)] else adj w (lot.take i) r) r) = adj w (lot.take (i + 1)) := by
                funext r
                have et : lot.take (i + 1) = lot.take i ++ [g] := by rw [List.take_add_one, hg] <;> rfl
                rw [et]
                unfold adj
                rw [List.flatMap_append, List.flatMap_cons, List.flatMap_nil, List.append_nil]
                unfold adj1
                by_cases e1 : r = (w.g g).1
                · have e2 : ¬ r = (w.g g).2 := fun z => hgo.2.2 (e1.symm.trans z)
                  simp only [e1, if_pos, if_true]
                  rw [if_neg (Ne.symm (Ne.symm hgo.2.2)), if_neg (Ne.symm hgo.2.2)]
                  simp
                · by_cases e2 : r = (w.g g).2
                  · have e3 : ¬ (w.g g).1 = (w.g g).2 := hgo.2.2
                    simp [e2, e3, Ne.symm e3]
                  · simp [e1, e2, Ne.symm e1, Ne.symm e2]
              exact ef ▸ b7
    · rw [List.length_map, List.take_length] at b
      exact Bs.done b sv fun _ => rfl
end
end K17
end

section
set_option maxRecDepth 100000
set_option maxHeartbeats 4000000
/-! sorted of a tuple of ints. -/
namespace DL
open PySem PySem.Spec PyProof.Rows L2 MN K17
section
variable {prog : Program} {w : World} {A : Around} {E : Value → Shared → Prop} {s : Shared}
/-- the heap behind collect: an empty list, then filled -/
abbrev gathered (h : Heap) (vs : List Value) : Heap := (h.push (seqObj "list" #[] 0)).update h.objs.size (Obj.mapSeq (· ++ vs.toArray))
theorem gathered_size (h : Heap) (vs : List Value) : (gathered h vs).objs.size = h.objs.size + 1 := (Heap.size_update ..).trans (Heap.size_push ..)
theorem gathered_old {h : Heap} {vs : List Value} {b : Addr} {o : Obj} (e : h.get? b = some o) : (gathered h vs).get? b = some o :=
  (Heap.get?_update_ne _ _ _ _ (Nat.ne_of_lt (Heap.lt_size e))).trans (Heap.get?_push_of_some _ e)
theorem gathered_next (h : Heap) (vs ws : List Value) : ((gathered h vs).push (seqObj "list" ws.toArray 0)).get? (h.objs.size + 1) = some (seqObj "list" ws.toArray 0) := by
  have z : ((gathered h vs).push (seqObj "list" ws.toArray 0)).get? (gathered h vs).objs.size = some (seqObj "list" ws.toArray 0) := Heap.get?_push_size _ rfl
  rwa [gathered_size] at z
/-- an empty new list takes a tuple's items -/
theorem filled {l : Addr} {vs : List Value} {o : Obj} {n : Nat} {Q : PySem.Fin → Shared → Prop} (ho : s.heap.get? l = some o) (hc : o.cls = .type "tuple") (hd : o.data = .seq vs.toArray n) (hz : vs.length ≤ sizeLine)
    (k : Q (.done (.ret (.ref s.heap.objs.size))) { s with heap := gathered s.heap vs }) :
    wpAny (model prog w) A (Builtin.List.listExtendWith (.ref s.heap.objs.size) (.ref l) (.ref s.heap.objs.size)) Q E { s with heap := s.heap.push (seqObj "list" #[] 0) } := by
  have here : (s.heap.push (seqObj "list" #[] 0)).get? l = some o := Heap.get?_push_of_some _ ho
  have self : (s.heap.push (seqObj "list" #[] 0)).get? s.heap.objs.size = some (seqObj "list" #[] 0) := Heap.get?_push_size _ rfl
  unfold Builtin.List.listExtendWith
  refine wpAny_bind (wpAny_typeOf (T := "tuple") ⟨o, here, hc⟩ ?_)
  rw [show (Value.type "tuple" == Value.type "tuple") = true from rfl, Bool.or_true, if_pos rfl]
  refine wpAny_bind (listItems_at here hd (wpAny_bind (listItems_at (xs := #[]) (n := 0) self rfl ?_)))
  rw [if_neg (by simp)]
  exact wpAny_bind (listUpdate_at (xs := #[]) (n := 0) self rfl (wpAny_pure k) (Nat.zero_le _) (by simpa using Nat.le_succ_of_le hz))
theorem collect_tup {l : Addr} {vs : List Value} {Q : List Value → Shared → Prop} (hl : s.heap.IsTuple l vs.toArray) (hz : vs.length ≤ sizeLine) (h : Q vs { s with heap := gathered s.heap vs }) :
    wpAny (model prog w) A (collect (.ref l)) Q E s := by
  obtain ⟨o, ho, hc, n, hd⟩ := hl
  have read : (gathered s.heap vs).get? s.heap.objs.size = _ := get?_update_seq (Heap.get?_push_size (s.heap) (o := seqObj "list" #[] 0) rfl) (· ++ vs.toArray)
  unfold collect
  exact wpAny_bind (wpAny_runValue (codeAny_builtin entry_proto_collect' (show wpAny _ _ (do again (.builtin "list.__iadd__" ⟨[← newList [], .ref l], []⟩)) _ _ s from
    wpAny_bind (wpAny_newList (wpAny_pure ⟨Code.quiet_builtin _ (by decide +kernel), codeAny_builtin entry_list_iadd' (filled ho hc hd hz (wpAny_bind (wpAny_load read (wpAny_pure (by simpa using h)))))⟩)))))
end
/-- sorted(tuple of ints) -/
def rSortTI (K : PySem.W.Frag) : List V → Hp → VK → Prop := fun vs H Q => ∃ (a : Addr) (ns : List Int), vs = [V.ref a] ∧ SqT K H a (ns.map V.int) ∧
  ∀ (ns' : List Int) (p : Addr), ns'.Perm ns → ns'.Pairwise (· ≤ ·) → H p = none → Q (.ref p) (upd H p (.lst (ns'.map V.int)))
theorem cr_sortTI {X : Cx} : CallR X (.builtin "sorted") (rSortTI X.K) := by
  rintro pins s σ H _ us Q I r ⟨a, ns, rfl, hs, q⟩
  obtain ⟨vs, rv, ht, hz⟩ := I.tuple hs
  have iv := rv.ints
  have len : vs.length ≤ sizeLine := rv.length ▸ hz
  have two := gathered_next s.heap vs vs
  rw [Vals.ref1 r]
  refine Calls.call_function_entry kind_sorted plain_sorted entry_sorted (args_sorted1 _) ?_
  unfold Builtin.«sorted»
  refine wpAny_bind (m := checkCount "sorted" 1 1 _) (wpAny_pure (wpAny_bind (collect_tup ht len (wpAny_bind (wpAny_newList ?_ len)))))
  show wpAny _ _ (_ >>= _) _ _ { s with heap := (gathered s.heap vs).push (seqObj "list" vs.toArray 0) }
  rw [gathered_size]
  refine wpAny_bind (wpAny_holding (wpAny_call_entry slot_list_sort ⟨_, two, rfl⟩ entry_list_sort (SrtO.list_sort_ord SrtO.swo_int two len (fun h2 => SrtO.ints_sortable iv h2) fun out sorted stable => ⟨_, rfl, wpAny_pure ⟨_, rfl, ?_⟩⟩) (args_list_sort _)))
  obtain ⟨vals, perm, asc⟩ := SrtO.ints_out iv sorted stable
  obtain ⟨ep, self⟩ := PyProof.Rows.sortedAll_at s.heap vs out.toArray
  have fits : ((out.map SrtO.iv).map V.int).length ≤ sizeLine := by
    rw [List.length_map] at hz ⊢
    exact perm.length_eq ▸ hz
  exact ⟨.ref _, _, I.laid (t' := s.toks) (fun _ _ => PyProof.Rows.sortedAll_old) (Nat.le_succ _) (o := .lst ((out.map SrtO.iv).map V.int)) ⟨fits, out, ep, vals_of_ints vals, self⟩, rfl, q _ _ perm asc (I.hok.fresh (Nat.le_succ _))⟩
theorem crSortTI {X : Cx} (K : PySem.W.Frag) (hK : X.K = K := by rfl) : CallR X (.builtin "sorted") (rSortTI K) := by subst hK; exact cr_sortTI
theorem co_sortTI {K : PySem.W.Frag} {l : List Nat} : CallO (rSortTI K) [nT l] (nL (srt l)) := fun G H us s rs Q q => by
  cases rs with
  | cons r1 r2 =>
    cases r2
    cases r1 with
    | @tup a xs _ h1 h2 =>
      have e : (l.map nD) = (l.map fun (n : Nat) => (n : Int)).map D.int := by rw [List.map_map]; rfl
      rw [e] at h2
      refine ⟨a, l.map fun (n : Nat) => (n : Int), rfl, by rw [← reps_ints h2]; exact SqT.of (s _ _ h1), fun ns' p hp hs hn => ?_⟩
      have e2 : ns' = (srt l).map fun (n : Nat) => (n : Int) := sorted_unique (hp.trans ((srt_perm l).map _).symm) hs (List.pairwise_map.mpr ((srt_sorted l).imp fun h => by omega))
      subst e2
      refine q p _ hn ⟨_, upd_same, ?_⟩
      have e3 : (srt l).map nD = ((srt l).map fun (n : Nat) => (n : Int)).map D.int := by rw [List.map_map]; rfl
      rw [e3]
      exact ints_reps _

/-! ### a list made by a def and handed over -/
def spO (n : Nat) (rel : List D → D → Prop) : Sp := fun vs H Q _ => ∃ (G : Hp) (ds : List D) (d : D), Same G H ∧ Reps G vs ds ∧ ds.length = n ∧ rel ds d ∧ ∀ p G' H', Gr G H G' H' → G' p = none → H p = none → Cont G' H' p d → Q (.ref p) H'
theorem spO_len {n : Nat} {rel : List D → D → Prop} {ps : List Str} (h : ps.length = n) : ∀ vs H Q E, spO n rel vs H Q E → vs.length = ps.length := fun vs H Q E ⟨G, ds, d, _, rs, hn, _⟩ => by rw [rs.length, hn, h]
section
variable {C : Addr} {E : XK} {n : Nat} {rel : List D → D → Prop} {ρ ρ1 ρ2 : En} {ts : TA} {ds : List D} {d : D} {po : Po}
theorem ev_callD_O (h : EvA ts ρ ρ1 (ds.map Sl.va)) (hr : rel ds d) (hn : ds.length = n) : EvD (tCall (spO n rel) [] E ts) ρ ρ1 (.ow d) := fun t G0 H0 κ τ G H σ hl m Q q =>
  h.all hl m fun vs G1 H1 m1 rs => by
    show spO n rel (vs ++ []) H1 Q E
    rw [List.append_nil]
    refine ⟨G1, ds, d, m1.gr.gh, rs, hn, hr, fun p G' H' g hp hp1 c => q _ G' H' ?_⟩
    have m2 := m1.grow g
    have h0 : H0 p = none := m1.gr.h.free hp1
    refine ⟨m2.gr, by have := m2.len; simp at this ⊢; omega, fun i r v h1 h2 => ?_, fun i j r s v u a hij h1 h2 h3 h4 e1 e2 => ?_⟩
    · by_cases hi : i < (ρ1 ++ κ).length
      · rw [List.getElem?_append_left hi] at h1
        rw [List.getElem?_append_left (by rw [m2.len]; exact hi)] at h2
        exact m2.ok i r v h1 h2
      · obtain ⟨rfl, rfl⟩ := get_last hi h1
        obtain ⟨_, rfl⟩ := get_last (by rw [m2.len]; exact hi) h2
        exact ⟨p, rfl, hp, h0, c⟩
    · have far : ∀ {k : Nat} {r : Sl} {v : Option V} {b : Addr}, k < (ρ1 ++ κ).length → (ρ1 ++ κ ++ [Sl.ow d])[k]? = some r → (σ ++ τ ++ [some (V.ref p)])[k]? = some v → ownA t r v = some b → b ≠ p := fun {k r v b} hk h1 h2 e z => by
        rw [List.getElem?_append_left hk] at h1
        rw [List.getElem?_append_left (by rw [m1.len]; exact hk)] at h2
        obtain ⟨_, _, o, ho⟩ := (m1.ok k r v h1 h2).ow_at (d := d) e
        rw [z, hp1] at ho; cases ho
      have new : ∀ {k : Nat} {r : Sl} {v : Option V} {b : Addr}, ¬ k < (ρ1 ++ κ).length → (ρ1 ++ κ ++ [Sl.ow d])[k]? = some r → (σ ++ τ ++ [some (V.ref p)])[k]? = some v → ownA t r v = some b → b = p := fun {k r v b} hk h1 h2 e => by
        obtain ⟨rfl, rfl⟩ := get_last hk h1
        obtain ⟨_, rfl⟩ := get_last (by rw [m1.len]; exact hk) h2
        cases e; rfl
      by_cases hi : i < (ρ1 ++ κ).length
      · by_cases hj : j < (ρ1 ++ κ).length
        · rw [List.getElem?_append_left hi] at h1
          rw [List.getElem?_append_left (by rw [m1.len]; exact hi)] at h2
          rw [List.getElem?_append_left hj] at h3
          rw [List.getElem?_append_left (by rw [m1.len]; exact hj)] at h4
          exact m1.nd i j r s v u a hij h1 h2 h3 h4 e1 e2
        · exact far hi h1 h2 e1 (new hj h3 h4 e2)
      · by_cases hj : j < (ρ1 ++ κ).length
        · exact far hj h3 h4 e2 (new hi h1 h2 e1)
        · obtain ⟨rfl, _⟩ := get_last hi h1
          obtain ⟨rfl, _⟩ := get_last hj h3
          exact hij rfl
/-- a body that hands such a list over -/
def RunO (ts : TS) (ρ : En) (d : D) : Prop := ∀ (t : Addr) (G0 H0 G H : Hp) (σ : L2.St), Mt t G0 H0 ρ G H σ → ∀ Ds : Ends, (∀ p G' H', Gr G0 H0 G' H' → G' p = none → H0 p = none → Cont G' H' p d → Ds.rt (.ref p) H') → ts Ds σ H
theorem runO_ret {te : TE} (h : EvD te ρ ρ1 (.ow d)) : RunO (tRet te) ρ d := fun t G0 H0 G H σ m Ds hrt =>
  h.go m fun v G' H' m' => by
    obtain ⟨p, e, g1, g2, c⟩ := m'.last
    cases e
    exact hrt p G' H' m'.gr g1 g2 c
theorem runO_set {te : TE} {i : Nat} {r : Sl} {t2 : TS} (h : EvD te ρ ρ1 r) (h2 : RunO t2 (ρ1.set i r) d) : RunO (tSeq (tAsg te (gName i)) t2) ρ d := fun t G0 H0 G H σ m Ds hrt =>
  h.go m fun v G' H' m' => by
    have hl : σ.length = ρ1.length := by have := m'.len; simpa using this
    have z := (show Mt t G0 H0 (ρ1 ++ [] ++ [r]) G' H' (σ ++ [] ++ [some v]) by simpa using m').store hl i
    rw [List.append_nil, List.append_nil] at z
    exact h2 t G0 H0 G' H' _ z Ds hrt
end
section
variable {P : Program} {w : World} {K : PySem.W.Frag} {mg : Str → Option Value} {base : Heap} {x : Str} {st : Stmt} {f : Addr} {fd : FuncData} {N ps : List Str} {k : Nat} {C : Addr} {rel : List D → D → Prop}
theorem mkCalO (Dx : DefAt K mg x st f fd) (S : FnScope N ps (defScope st)) (hb : BindH x st ps) (hN : ps.length ≤ N.length)
    (body : ∀ (f : Addr) (cdv : Value) (A : Around) (outer : List Env) (s : Shared) (H : Hp) (E : XK), Room k (A.deeper (envOfC x (defScope st) s.heap.objs.size f cdv)) →
      ∃ ts, PSs (cX P w K mg base N x st f cdv A outer s H E).nox (defBody st) ts ∧ ∀ ds d, ds.length = ps.length → rel ds d → RunO ts (ds.map Sl.va ++ List.replicate (N.length - ps.length) .un) d) : CalD P w K mg base (k + 1) x ps (spO ps.length rel) := by
  refine ⟨f, fd, Dx.fn.ok S (spO_len rfl) fun cdv A outer s H vs Q E hr h => ?_, Dx.mg, Dx.fn.kp, Dx.fn.bindsN hb⟩
  obtain ⟨G, ds, d, sg, rs, hn, hrel, hQ⟩ := h
  obtain ⟨ts, hp, hq⟩ := body f cdv A outer s H E hr
  refine ⟨ts, hp.nox, ?_⟩
  have z := hq ds d hn hrel
  rw [← hn, ← rs.length] at z
  exact z 0 G H G H _ (start_mt sg rs (by rw [rs.length, hn]; exact hN)) _ fun p G' H' g g1 g2 c => hQ p G' H' g g1 g2 c
end

/-! ### an owned list comes to be the one at the fixed address -/
def noTi : Sl → Bool
  | .ti _ => false
  | _ => true
theorem Mt.un {t t' : Addr} {G0 H0 G H : Hp} {ρ : En} {σ : L2.St} (m : Mt t G0 H0 ρ G H σ) : Mt t' G0 H0 (ρ.map fun _ => Sl.un) G H σ := by
  refine ⟨m.gr, by rw [List.length_map]; exact m.len, fun i r v h1 h2 => ?_, fun i j r s v u a hij h1 h2 h3 h4 e1 e2 => ?_⟩
  · rw [List.getElem?_map] at h1
    cases e : ρ[i]? with
    | none => rw [e] at h1; cases h1
    | some x => rw [e] at h1; cases h1; exact True.intro
  · rw [List.getElem?_map] at h1
    cases e : ρ[i]? with
    | none => rw [e] at h1; cases h1
    | some x => rw [e] at h1; cases h1; cases e1
theorem run_ti {C : Addr} {E : XK} {ts : TS} {ρ : En} {i : Nat} {d : D} {r : Option D} (hi : ρ[i]? = some (.ow d)) (hn : ρ.all noTi = true) (h : Run C E ts (ρ.set i (.ti d)) (PoF r)) : Run C E ts ρ (PoF r) := fun t G0 H0 G H σ m Ds s => by
  obtain ⟨a, ea, g1, g2, c⟩ := m.ow hi
  have hlt : i < ρ.length := (List.getElem?_eq_some_iff.mp hi).1
  have nt : ∀ {k : Nat} {r : Sl}, ρ[k]? = some r → noTi r = true := fun {k r} e => List.all_eq_true.mp hn r (List.mem_of_getElem? e)
  have m2 : Mt a G0 H0 (ρ.set i (.ti d)) G H σ := by
    refine ⟨m.gr, by rw [List.length_set]; exact m.len, fun k r v h1 h2 => ?_, fun k l r s v u b hkl h1 h2 h3 h4 e1 e2 => ?_⟩
    · by_cases hk : k = i
      · subst hk
        rw [List.getElem?_set_self hlt] at h1; cases h1
        rw [ea] at h2; cases h2
        exact ⟨rfl, g1, g2, c⟩
      · rw [List.getElem?_set_ne (Ne.symm hk)] at h1
        have q := m.ok k r v h1 h2
        have z := nt h1
        cases r with
        | un => exact True.intro
        | va d => exact q
        | ow d => exact q
        | ti d => cases z
    · have key : ∀ {k : Nat} {r : Sl} {v : Option V}, (ρ.set i (.ti d))[k]? = some r → σ[k]? = some v → ownA a r v = some b → ∃ r', ρ[k]? = some r' ∧ ownA t r' v = some b := fun {k r v} h1 h2 e => by
        by_cases hk : k = i
        · subst hk
          rw [List.getElem?_set_self hlt] at h1; cases h1
          rw [ea] at h2; cases h2
          exact ⟨_, hi, e⟩
        · rw [List.getElem?_set_ne (Ne.symm hk)] at h1
          have z := nt h1
          cases r with
          | un => cases e
          | va d => cases e
          | ow d =>
            refine ⟨_, h1, ?_⟩
            cases v with
            | none => cases e
            | some v => cases v <;> first | exact e | (cases e; rfl) | cases e
          | ti d => cases z
      obtain ⟨r', q1, q2⟩ := key h1 h2 e1
      obtain ⟨s', q3, q4⟩ := key h3 h4 e2
      exact m.nd k l r' s' v u b hkl q1 h2 q3 h4 q2 q4
  refine h a G0 H0 G H σ m2 Ds ⟨fun ρ' G' H' σ' e m' => s.nx (ρ'.map fun _ => Sl.un) G' H' σ' e m'.un, fun _ _ _ _ z => z.elim, fun _ _ _ _ z => z.elim, fun d v ρ' G' H' σ' e m' => ?_, s.rz⟩
  exact s.rt d v (ρ'.map fun _ => Sl.un) G' H' σ' e (m'.pop.un.push m'.last.rep)
end DL
end

section
set_option maxRecDepth 100000
set_option maxHeartbeats 4000000
namespace DL
open PySem PySem.Spec PyProof.Rows L2 MN K17
section
variable {C : Addr} {E : XK} {K : PySem.W.Frag} {ρ ρ1 : En} {te ta : TE} {ds es : List D} {d : D} {po : Po} {i : Nat}
/-- xs[k] = e, xs the list at the fixed address -/
theorem run_setAtTi {tk : TE} {k : Nat} (h : EvD te ρ ρ (.va d)) (h0 : ρ[i]? = some (.ti (.lst ds))) (hk : EvD tk ρ ρ (.va (.int (k : Int)))) (hlt : k < ds.length) (hn : po.nx (ρ.set i (.ti (.lst (ds.set k d))))) :
    Run C E (tAsg te (gSub (tVar i) tk rSetL)) ρ po := fun t G0 H0 G H σ m Ds s => by
  refine h.go m fun v G1 H1 m1 => ?_
  have w := m1.last.rep
  have hl : σ.length = ρ.length := by have := m1.len; simpa using this
  have hlt0 : i < ρ.length := (List.getElem?_eq_some_iff.mp h0).1
  obtain ⟨e0, _, _, _⟩ := m1.ti (i := i) (d := .lst ds) (by rw [List.getElem?_append_left hlt0]; exact h0)
  rw [List.getElem?_append_left (by rw [hl]; exact hlt0)] at e0
  refine ⟨_, e0, ?_⟩
  refine hk t G0 H0 [.va d] [some v] G1 H1 σ hl m1 _ fun u G2 H2 m2 => ?_
  have wu := m2.last.rep
  cases wu
  have m3 := m2.pop
  have wv := m3.last.rep
  have h3 : (ρ ++ [Sl.va d])[i]? = some (.ti (.lst ds)) := by rw [List.getElem?_append_left hlt0]; exact h0
  obtain ⟨e3, g3, h03, ys, hy, ry⟩ := m3.ti h3
  have e1 : ixN ys.length (k : Int) = some k := by
    have := ry.length
    unfold ixN; rw [if_pos (by omega), if_pos (by omega)]; simp
  refine ⟨t, ys, (k : Int), k, rfl, rfl, hy, e1, ?_⟩
  have m4 := m3.writeTi (o := .lst (ys.set k v)) (d' := .lst (ds.set k d)) h3 ⟨_, upd_same, ry.set wv⟩
  rw [set_app hlt0] at m4
  exact s.nx _ _ _ _ hn m4.pop
end
end DL
end

section
set_option maxRecDepth 100000
set_option maxHeartbeats 4000000
/-! What the law's defs compute. -/
namespace K17
open MN DL
/-- the law's store of draws: (rest of the number, its start, how many draws beyond) -/
abbrev TinS := Int × Int × Int
def takeF (m : Nat) (s : TinS) : Nat × TinS :=
  if 0 < s.1 then ((s.1.fmod m).toNat, (s.1.fdiv m, s.2.1, s.2.2)) else
  let t := s.2.2 + 1
  let once := ((s.2.1 + 48271 * t) * (39373 + t)).fmod 2147483647
  let wide := once.fmod 40009 + 7
  let twice := ((once + t + s.2.1.fdiv 1000003) * wide).fmod 2147483629
  (((((twice * 48271 + once).fmod 2147483587).fdiv 64).fmod m).toNat, (s.1, s.2.1, t))
/-- a store as it may be behind n draws at most -/
structure TinOk (n : Nat) (s : TinS) : Prop where
  a : 0 ≤ s.1
  b0 : 0 ≤ s.2.1
  b1 : s.2.1 < 2 ^ 62
  t0 : 0 ≤ s.2.2
  t1 : s.2.2 ≤ n
theorem TinOk.mono {n m : Nat} {s : TinS} (h : TinOk n s) (hn : n ≤ m) : TinOk m s := ⟨h.a, h.b0, h.b1, h.t0, by have := h.t1; omega⟩
theorem takeF_ok {n m : Nat} {s : TinS} (h : TinOk n s) (hm : 0 < m) : TinOk (n + 1) (takeF m s).2 ∧ (takeF m s).1 < m := by
  unfold takeF
  have h1 := h.t0
  have h2 := h.t1
  split
  · refine ⟨⟨?_, h.b0, h.b1, h.t0, by have := h.t1; show s.2.2 ≤ ((n + 1 : Nat) : Int); omega⟩, ?_⟩
    · exact Int.fdiv_nonneg h.a (by omega)
    · have a1 := Int.fmod_nonneg_of_pos s.1 (show (0 : Int) < m by omega)
      have a2 := Int.fmod_lt_of_pos s.1 (show (0 : Int) < m by omega)
      show (s.1.fmod m).toNat < m
      omega
  · refine ⟨⟨h.a, h.b0, h.b1, by show 0 ≤ s.2.2 + 1; omega, by show s.2.2 + 1 ≤ ((n + 1 : Nat) : Int); omega⟩, ?_⟩
    have key : ∀ x : Int, (x.fmod m).toNat < m := fun x => by
      have a1 := Int.fmod_nonneg_of_pos x (show (0 : Int) < m by omega)
      have a2 := Int.fmod_lt_of_pos x (show (0 : Int) < m by omega)
      omega
    exact key _
/-! ### draws -/
def pickF : Nat → List Nat → TinS → List Nat × TinS
  | 0, _, s => ([], s)
  | k + 1, pool, s =>
    let d := takeF pool.length s
    let r := pickF k (pool.eraseIdx d.1) d.2
    (pool.getD d.1 0 :: r.1, r.2)
def edgeF (many : Nat) (s : TinS) : (Nat × Nat) × TinS :=
  let one := takeF many s
  let i := takeF 2 one.2
  let x := takeF (if i.1 = 0 then 3 else many - 1) i.2
  let two := (one.1 + 1 + x.1) % many
  let c := takeF 2 x.2
  (if c.1 = 0 then (one.1, two) else (two, one.1), c.2)
def edgesF (many : Nat) : Nat → TinS → List (Nat × Nat) × TinS
  | 0, s => ([], s)
  | k + 1, s =>
    let r := edgesF many k s
    let e := edgeF many r.2
    (r.1 ++ [e.1], e.2)
def netF (s : TinS) : Web × TinS :=
  let x := takeF 21 s
  let y := takeF 21 x.2
  let e := edgesF (20 + x.1) (20 + y.1) y.2
  (⟨20 + x.1, e.1⟩, e.2)
/-- which of a list the next draws of 2 keep -/
def keepF : List Nat → TinS → List Nat × TinS
  | [], s => ([], s)
  | a :: l, s =>
    let d := takeF 2 s
    let r := keepF l d.2
    (if d.1 = 0 then a :: r.1 else r.1, r.2)
/-! ### orders walked -/
def lawSeat (w : Web) (taken : List Nat) (k : Nat) : Option Nat :=
  if (w.g k).1 ∉ taken then some (w.g k).1 else if (w.g k).2 ∉ taken then some (w.g k).2 else none
def runStep (w : Web) (s : List (Option Nat) × List Nat) (k : Nat) : List (Option Nat) × List Nat := (s.1.set k (lawSeat w s.2 k), s.2 ++ (lawSeat w s.2 k).toList)
def lawRun (w : Web) (walk : List Nat) : List (Option Nat) := (walk.foldl (runStep w) (List.replicate w.gs.length none, [])).1
def lawLacking (seats : List (Option Nat)) : List Nat := (List.range seats.length).filter fun k => (seats.getD k none).isNone
/-! ### parts -/
def markStep (w : Web) (marks : List Nat) (k : Nat) : List Nat := marks.map fun o => if o = marks.getD (w.g k).2 0 then marks.getD (w.g k).1 0 else o
def lawMarks (w : Web) (heap : List Nat) : List Nat := heap.foldl (markStep w) (List.range w.many)
def lawKinds (marks : List Nat) : List Nat := marks.foldl put []
def lawRaw (w : Web) (heap : List Nat) : List (List Nat) := (lawKinds (lawMarks w heap)).map fun o => (List.range w.many).filter fun p => decide ((lawMarks w heap).getD p 0 = o)
def lawParts (w : Web) (heap : List Nat) : List (List Nat) := sortL (lawRaw w heap)
def lawMore (w : Web) (heap part : List Nat) : Int := ((guestsIn w heap part).length : Int) - (part.length : Int)
def lawFreeIn (w : Web) (heap part : List Nat) : List Nat := part.filter fun p => decide (p ∈ unwantedIn w) && (heap.filter fun k => decide (p ∈ [(w.g k).1, (w.g k).2])).isEmpty
def isBars (w : Web) (heap part : List Nat) : Bool := decide (0 < lawMore w (othersIn w heap) part) || (decide (lawMore w (othersIn w heap) part < 0) && (lawFreeIn w heap part).isEmpty)
def lawBars (w : Web) (heap : List Nat) : List (List Nat) := (lawParts w (othersIn w heap)).filter (isBars w heap)
def lawEnds (w : Web) (heap part : List Nat) : List Nat := heap.filter fun k => decide ((w.g k).1 ∈ part) || decide ((w.g k).2 ∈ part)
def isBarred (w : Web) (heap part : List Nat) : Bool := !(lawEnds w heap part).isEmpty && (decide (lawMore w (othersIn w heap) part < 0) && (lawFreeIn w heap part).isEmpty)
def lawBarredBy (w : Web) (heap : List Nat) : List (List Nat) := (lawParts w (othersIn w heap)).filter (isBarred w heap)
def within (heap wide : List Nat) : Bool := (heap.filter fun x => !decide (x ∈ wide)).isEmpty
def isWalk (w : Web) (l : List Nat) : Bool := decide (srt l = List.range w.gs.length)
def isJust (w : Web) (heap l : List Nat) : Bool := isWalk w l && decide (lawLacking (lawRun w l) = heap)
def isAllOf (w : Web) (heap l : List Nat) : Bool := isWalk w l && within heap (lawLacking (lawRun w l))
/-- free places behind a walk -/
def freeBehind (w : Web) (seats : List (Option Nat)) : List Nat := (List.range w.many).filter fun p => !decide (some p ∈ seats)
def lawDue (w : Web) (heap : List Nat) : List Nat := (lawParts w (othersIn w heap)).flatMap fun part => if lawMore w (othersIn w heap) part < 0 then lawFreeIn w heap part else []
end K17
end

section
set_option maxRecDepth 100000
set_option maxHeartbeats 4000000
namespace K17
open PySem PySem.Spec PyProof.Rows L2 DL MN
section
variable {P : Program} {w : World} {K : PySem.W.Frag} {mg : Str → Option Value} {base : Heap} {C : Addr} {f : Addr} {fd : FuncData}


abbrev encT (s : TinS) : D := .lst [.int s.1, .int s.2.1, .int s.2.2]

def r__law_take (s0 : D) (ds : List D) (s1 : D) (d : D) : Prop := ∃ (s : TinS) (m : Nat), 0 < m ∧ m < 1000 ∧ TinOk 100000 s ∧ s0 = encT s ∧ ds = [nD m] ∧ s1 = encT (takeF m s).2 ∧ d = nD (takeF m s).1
theorem cal__law_take (T : Txt K mg C) (Dx : DefAt K mg "_law_take" s__law_take f fd)  : CalD P w K mg base 1 "_law_take" ["_law_tin", "_law_below_so"] (spT 1 r__law_take) := by
  refine mkCalT (C := C) Dx sc__law_take bd__law_take rfl (by decide) fun f cdv A outer s H E hr => have hu := hu_of hr; ⟨_, (pss_cons (ps_if (pt_cmpR op_gt (pe_ix (ixL K) (pv 0) pe_int (fun _ _ => rfl)) pe_int (nomark _)) (pss_cons (ps_set (i := 2) sc__law_take.nd rfl (Or.inl rfl) (pe_op op_modN (pe_callTy call_int1 (by rfl) T.int (by decide +kernel) (pa_cons (pe_ix (ixL K) (pv 0) pe_int (fun _ _ => rfl)) pa_nil)) (pv 1)))
      (pss_cons (ps_asg (pe_op op_fdivN (pe_ix (ixL K) (pv 0) pe_int (fun _ _ => rfl)) (pv 1)) (pg_sub (pv 0) pe_int set_list))
      (pss_one (ps_ret (pv 2))))) pss_nil)
      (pss_cons (ps_asg (pe_op op_add (pe_ix (ixL K) (pv 0) pe_int (fun _ _ => rfl)) pe_int) (pg_sub (pv 0) pe_int set_list))
      (pss_cons (ps_set (i := 3) sc__law_take.nd rfl (Or.inl rfl) (pe_op op_modN (pe_callTy call_int1 (by rfl) T.int (by decide +kernel) (pa_cons (pe_op op_mul (pe_op op_add (pe_ix (ixL K) (pv 0) pe_int (fun _ _ => rfl)) (pe_op op_mul pe_int (pe_ix (ixL K) (pv 0) pe_int (fun _ _ => rfl)))) (pe_op op_add pe_int (pe_ix (ixL K) (pv 0) pe_int (fun _ _ => rfl)))) pa_nil)) pe_int))
      (pss_cons (ps_set (i := 4) sc__law_take.nd rfl (Or.inl rfl) (pe_op op_add (pe_op op_modN (pe_callTy call_int1 (by rfl) T.int (by decide +kernel) (pa_cons (pv 3) pa_nil)) pe_int) pe_int))
      (pss_cons (ps_set (i := 5) sc__law_take.nd rfl (Or.inl rfl) (pe_op op_modN (pe_callTy call_int1 (by rfl) T.int (by decide +kernel) (pa_cons (pe_op op_mul (pe_op op_add (pe_op op_add (pv 3) (pe_ix (ixL K) (pv 0) pe_int (fun _ _ => rfl))) (pe_op op_fdivN (pe_ix (ixL K) (pv 0) pe_int (fun _ _ => rfl)) pe_int)) (pv 4)) pa_nil)) pe_int))
      (pss_one (ps_ret (pe_op op_modN (pe_callTy call_int1 (by rfl) T.int (by decide +kernel) (pa_cons (pe_op op_fdivN (pe_op op_modN (pe_callTy call_int1 (by rfl) T.int (by decide +kernel) (pa_cons (pe_op op_add (pe_op op_mul (pv 5) pe_int) (pv 3)) pa_nil)) pe_int) pe_int) pa_nil)) (pv 1))))))))), ?_⟩
  rintro s0 ds s1 d _ ⟨⟨a, b, t⟩, m, hm, hm2, hs, rfl, rfl, rfl, rfl⟩
  show Run C E _ [.ti (encT (a, b, t)), .va (nD m), .un, .un, .un, .un] _
  have hb0 : 0 ≤ b := hs.b0
  have hb1 : b < 2 ^ 62 := hs.b1
  have ht0 : 0 ≤ t := hs.t0
  have ht1 : t ≤ ((100000 : Nat) : Int) := hs.t1
  have hmi : ((m : Nat) : Int) ≠ 0 := by omega
  have hma : CDivN a ((m : Nat) : Int) := ⟨hmi, by omega⟩
  have fm : ∀ (x y : Int), 0 < y → 0 ≤ x.fmod y ∧ x.fmod y < y := fun x y h => ⟨Int.fmod_nonneg_of_pos x h, Int.fmod_lt_of_pos x h⟩
  refine run_seq (fun ρ => ¬ 0 < a ∧ ρ = [.ti (encT (a, b, t)), .va (nD m), .un, .un, .un, .un]) (run_if (EvT.bor (et_test (ev_op (ev_ixL (ev_var rfl) (ev_c fun _ => .int _) rfl) (ev_c fun _ => .int _) opv_bl))) (fun hb => ?_) fun hb => run_next ⟨of_decide_eq_false hb, rfl⟩) ?_
  · have ha : 0 < a := of_decide_eq_true hb
    have et : takeF m (a, b, t) = ((a.fmod m).toNat, (a.fdiv m, b, t)) := if_pos ha
    rw [et]
    refine run_seq1 (run_set (ev_op (ev_call (xs := [_]) (ea_cons (EvD.bor (d := .int a) (ev_ixL (ev_var rfl) (ev_c fun _ => .int _) rfl) rfl) ea_nil) cv_intI) (ev_var rfl) (opv_intC hmi)) rfl) ?_
    refine run_seq1 (run_setAtTi (k := 0) (ev_op (EvD.bor (d := .int a) (ev_ixL (ev_var rfl) (ev_c fun _ => .int _) rfl) rfl) (ev_var rfl) (opv_intC hma)) rfl (ev_c fun _ => .int _) (by simp) rfl) ?_
    refine run_ret (EvD.is (ev_var rfl) ?_) ⟨rfl, rfl⟩
    have := (fm a m (by omega)).1
    show D.int (a.fmod m) = .int (((a.fmod m).toNat : Nat) : Int)
    congr 1
    omega
  · rintro _ ⟨ha, rfl⟩
    have et : ∀ once : Int, once = ((b + 48271 * (t + 1)) * (39373 + (t + 1))).fmod 2147483647 → takeF m (a, b, t) = (((((((once + (t + 1) + b.fdiv 1000003) * (once.fmod 40009 + 7)).fmod 2147483629 * 48271 + once).fmod 2147483587).fdiv 64).fmod m).toNat, (a, b, t + 1)) := fun once h => by
      subst h; exact if_neg ha
    rw [et _ rfl]
    have o1 := fm ((b + 48271 * (t + 1)) * (39373 + (t + 1))) 2147483647 (by decide)
    refine run_seq1 (run_setAtTi (k := 2) (ev_op (EvD.bor (d := .int t) (ev_ixL (ev_var rfl) (ev_c fun _ => .int _) rfl) rfl) (ev_c fun _ => .int _) opv_int) rfl (ev_c fun _ => .int _) (by simp) rfl) ?_
    refine run_seq1 (run_set (EvD.bor (d := .int (((b + 48271 * (t + 1)) * (39373 + (t + 1))).fmod 2147483647)) (ev_op (ev_call (xs := [_]) (ea_cons (ev_op (ev_op (ev_ixL (ev_var rfl) (ev_c fun _ => .int _) rfl) (ev_op (ev_c fun _ => .int _) (ev_ixL (ev_var rfl) (ev_c fun _ => .int _) rfl) (opv_intC (.inl ⟨by decide, by decide⟩))) opv_int) (ev_op (ev_c fun _ => .int _) (ev_ixL (ev_var rfl) (ev_c fun _ => .int _) rfl) opv_int) (opv_intC (.inr ⟨?_, ?_⟩))) ea_nil) cv_intI) (ev_c fun _ => .int _) (opv_intC (by decide))) rfl) rfl) ?_
    · show -(2 ^ 64) < 39373 + (t + 1); omega
    · show 39373 + (t + 1) < 2 ^ 64; omega
    have w1 := fm (((b + 48271 * (t + 1)) * (39373 + (t + 1))).fmod 2147483647) 40009 (by decide)
    generalize ((b + 48271 * (t + 1)) * (39373 + (t + 1))).fmod 2147483647 = once at o1 w1 ⊢
    refine run_seq1 (run_set (ev_op (ev_op (ev_call (xs := [_]) (ea_cons (ev_var rfl) ea_nil) cv_intI) (ev_c fun _ => .int _) (opv_intC (by decide))) (ev_c fun _ => .int _) opv_int) rfl) ?_
    refine run_seq1 (run_set (EvD.bor (d := .int (((once + (t + 1) + b.fdiv 1000003) * (once.fmod 40009 + 7)).fmod 2147483629)) (ev_op (ev_call (xs := [_]) (ea_cons (ev_op (ev_op (ev_op (ev_var rfl) (ev_ixL (ev_var rfl) (ev_c fun _ => .int _) rfl) opv_int) (ev_op (ev_ixL (ev_var rfl) (ev_c fun _ => .int _) rfl) (ev_c fun _ => .int _) (opv_intC ⟨by decide, by decide⟩)) opv_int) (ev_var rfl) (opv_intC (.inr ⟨?_, ?_⟩))) ea_nil) cv_intI) (ev_c fun _ => .int _) (opv_intC (by decide))) rfl) rfl) ?_
    · show -(2 ^ 64) < once.fmod 40009 + 7; omega
    · show once.fmod 40009 + 7 < 2 ^ 64; omega
    refine run_ret (EvD.is (ev_op (ev_call (xs := [_]) (ea_cons (ev_op (ev_op (ev_call (xs := [_]) (ea_cons (ev_op (ev_op (ev_var rfl) (ev_c fun _ => .int _) (opv_intC (.inr ⟨by decide, by decide⟩))) (ev_var rfl) opv_int) ea_nil) cv_intI) (ev_c fun _ => .int _) (opv_intC (by decide))) (ev_c fun _ => .int _) (opv_intC ⟨by decide, by decide⟩)) ea_nil) cv_intI) (ev_var rfl) (opv_intC hmi)) ?_) ⟨rfl, rfl⟩
    generalize ((((once + (t + 1) + b.fdiv 1000003) * (once.fmod 40009 + 7)).fmod 2147483629 * 48271 + once).fmod 2147483587).fdiv 64 = x
    have := (fm x m (by omega)).1
    show D.int (x.fmod m) = .int (((x.fmod m).toNat : Nat) : Int)
    congr 1
    omega
def r__law_of (s0 : D) (ds : List D) (s1 : D) (d : D) : Prop := ∃ (s : TinS) (l : List Nat), 0 < l.length ∧ l.length < 1000 ∧ TinOk 100000 s ∧ s0 = encT s ∧ ds = [nL l] ∧ s1 = encT (takeF l.length s).2 ∧ d = nD (l.getD (takeF l.length s).1 0)
theorem cal__law_of (T : Txt K mg C) (Dx : DefAt K mg "_law_of" s__law_of f fd) (c__law_take : CalD P w K mg base 1 "_law_take" ["_law_tin", "_law_below_so"] (spT 1 r__law_take)) : CalD P w K mg base 2 "_law_of" ["_law_tin", "_law_goods_so"] (spT 1 r__law_of) := by
  refine mkCalT (C := C) Dx sc__law_of bd__law_of rfl (by decide) fun f cdv A outer s H E hr => have hu := hu_of hr; ⟨_, (pss_one (ps_ret (pe_ix (ixL K) (pv 1) (pe_d c__law_take hr (by decide) (by rfl) (pa_cons (pv 0) (pa_cons (pe_callB (crLen K) (by rfl) T.len PySem.boot_len (pa_cons (pv 1) pa_nil)) pa_nil))) (fun _ _ => rfl)))), ?_⟩
  rintro s0 ds s1 d _ ⟨s, l, h0, h1, hs, rfl, rfl, rfl, rfl⟩
  show Run C E _ [.ti (encT s), .va (nL l)] _
  have hlt := (takeF_ok hs h0).2
  refine run_ret (ρ1 := [.ti (encT s), .va (nL l)].set 0 (.ti (encT (takeF l.length s).2))) (ev_ixL (ev_var rfl) (ev_callT (ds := [_]) (st0 := encT s) rfl (ea_cons (ev_lenL (ev_var rfl)) ea_nil) rfl ⟨s, l.length, h0, h1, hs, rfl, by rw [List.length_map], rfl, rfl⟩ rfl) (d := nD (l.getD (takeF l.length s).1 0)) (atI_nat ?_)) ⟨rfl, rfl⟩
  rw [List.getElem?_map, List.getElem?_eq_getElem hlt, List.getD_eq_getElem?_getD, List.getElem?_eq_getElem hlt] <;> rfl

theorem erase_map : ∀ (l : List Nat) (j : Nat), (l.map nD).eraseIdx j = (l.eraseIdx j).map nD
  | [], j => by simp
  | a :: r, 0 => by simp
  | a :: r, j + 1 => by simp [erase_map r j]
theorem pickF_ok : ∀ (k : Nat) (pool : List Nat) (s : TinS) (n : Nat), TinOk n s → k ≤ pool.length → TinOk (n + k) (pickF k pool s).2 ∧ (pickF k pool s).1.length = k
  | 0, pool, s, n, h, _ => ⟨h, rfl⟩
  | k + 1, pool, s, n, h, hk => by
    obtain ⟨t1, t2⟩ := takeF_ok h (m := pool.length) (by omega)
    obtain ⟨p1, p2⟩ := pickF_ok k (pool.eraseIdx (takeF pool.length s).1) _ (n + 1) t1 (by rw [List.length_eraseIdx_of_lt t2]; omega)
    rw [pickF]
    refine ⟨p1.mono (by omega), ?_⟩
    show (_ :: _).length = _
    rw [List.length_cons, p2]

def r__law_pick (s0 : D) (ds : List D) (s1 : D) (d : D) : Prop := ∃ (s : TinS) (l : List Nat), l.length ≤ 100 ∧ TinOk 1000 s ∧ s0 = encT s ∧ ds = [nL l, nD l.length] ∧ s1 = encT (pickF l.length l s).2 ∧ d = nL (pickF l.length l s).1
theorem cal__law_pick (T : Txt K mg C) (Dx : DefAt K mg "_law_pick" s__law_pick f fd) (c__law_take : CalD P w K mg base 1 "_law_take" ["_law_tin", "_law_below_so"] (spT 1 r__law_take)) : CalD P w K mg base 2 "_law_pick" ["_law_tin", "_law_goods_so", "_law_count_so"] (spT 2 r__law_pick) := by
  refine mkCalT (C := C) Dx sc__law_pick bd__law_pick rfl (by decide) fun f cdv A outer s H E hr => have hu := hu_of hr; ⟨_, (pss_cons (ps_par (i := 3) (j := 4) rfl sc__law_pick.nd rfl rfl (by decide) rfl rfl (pa_cons (pe_callTy (crLst K) (by rfl) T.list (by decide +kernel) (pa_cons (pv 1) pa_nil)) (pa_cons (pe_lst pa_nil) pa_nil)) (by rfl))
      (pss_cons (ps_for PassesOwn.never rfl (pi_range1 rfl T.range (pa_cons (pe_callB (call_min2 rfl) (by rfl) T.min (by decide +kernel) (pa_cons (pe_callTy call_int1 (by rfl) T.int (by decide +kernel) (pa_cons (pv 2) pa_nil)) (pa_cons (pe_callB (crLen K) (by rfl) T.len PySem.boot_len (pa_cons (pv 3) pa_nil)) pa_nil))) pa_nil)) (pg_name (i := 5) sc__law_pick.nd rfl (Or.inl rfl)) (pss_one (ps_expr (bmL K PySem.F.slot_list_append PySem.F.type_list_append mt_append (pv 4) (pa_cons (bmL K PySem.F.slot_list_pop PySem.F.type_list_pop mt_popAt (pv 3) (pa_cons (pe_d c__law_take hr (by decide) (by rfl) (pa_cons (pv 0) (pa_cons (pe_callB (crLen K) (by rfl) T.len PySem.boot_len (pa_cons (pv 3) pa_nil)) pa_nil))) pa_nil)) pa_nil)))))
      (pss_one (ps_ret (pv 4))))), ?_⟩
  rintro s0 ds s1 d _ ⟨s, l, hz, hs, rfl, rfl, rfl, rfl⟩
  show Run C E _ [.ti (encT s), .va (nL l), .va (nD l.length), .un, .un, .un] _
  refine run_seq1 (run_par (ea_cons (ev_lstL (ev_var rfl)) (ea_cons (ev_lst (xs := []) ea_nil (by simp)) ea_nil)) rfl (by decide)) ?_
  refine run_seq (fun ρ => ∃ u3 u5, ρ = [.ti (encT (pickF l.length l s).2), .va (nL l), .va (nD l.length), u3, .ow (nL (pickF l.length l s).1), u5])
    (run_for (ds := (List.range l.length).map nD) ?_ (fun i ρ => ∃ (s' : TinS) (pool found : List Nat) (u5 : Sl), TinOk (1000 + i) s' ∧ pool.length + i = l.length ∧ found.length = i ∧ pickF l.length l s = (found ++ (pickF pool.length pool s').1, (pickF pool.length pool s').2) ∧ ρ = [.ti (encT s'), .va (nL l), .va (nD l.length), .ow (nL pool), .ow (nL found), u5])
      ⟨s, l, [], .un, hs, rfl, rfl, rfl, rfl⟩ ?_ ?_) ?_
  · have hm : EvD (tCB (fun xs H Q => ∃ i j, xs = [V.int i, V.int j] ∧ Q (V.int (if j < i then j else i)) H) (tCons (tCB rInt1 (tCons (tVar 2) tNil)) (tCons (tCB (DL.rLen K) (tCons (tVar 3) tNil)) tNil))) [.ti (encT s), .va (nL l), .va (nD l.length), .ow (nL l), .ow (.lst []), .un] [.ti (encT s), .va (nL l), .va (nD l.length), .ow (nL l), .ow (.lst []), .un] (.va (nD l.length)) := by
      refine EvD.bor (EvD.is (ev_call (xs := [_, _]) (ea_cons (ev_call (xs := [_]) (ea_cons (ev_var rfl) ea_nil) cv_intI) (ea_cons (ev_lenL (ev_var rfl)) ea_nil)) cv_min) ?_) rfl
      rw [List.length_map, if_neg (by omega)]
    exact ei_range1 (ea_cons hm ea_nil) (by omega)
  · rintro i d _ hd ⟨s', pool, found, u5, t1, p1, f1, e1, rfl⟩
    rw [List.getElem?_map] at hd
    have hi : i < l.length := by
      cases h : (List.range l.length)[i]? with
      | none => rw [h] at hd; cases hd
      | some x => have := (List.getElem?_eq_some_iff.mp h).1; simpa using this
    obtain ⟨k, hk⟩ : ∃ k, pool.length = k + 1 := ⟨pool.length - 1, by omega⟩
    obtain ⟨t2, t3⟩ := takeF_ok t1 (m := pool.length) (by omega)
    have hgd : (pool.map nD)[(takeF pool.length s').1]? = some (nD (pool.getD (takeF pool.length s').1 0)) := by
      rw [List.getElem?_map, List.getElem?_eq_getElem t3, List.getD_eq_getElem?_getD, List.getElem?_eq_getElem t3] <;> rfl
    refine ⟨_, _, eg_name 5, ?_⟩
    refine run_drop (ev_append rfl (ev_popAt rfl (ev_callT (ds := [_]) (st0 := encT s') rfl (ea_cons (EvD.bor (ev_lenL (ev_var rfl)) rfl) ea_nil) rfl ⟨s', pool.length, by omega, by omega, t1.mono (by omega), rfl, by rw [List.length_map], rfl, rfl⟩ rfl) rfl hgd (by rw [List.length_map]; omega)) rfl (by rw [List.length_map]; omega)) ?_
    refine ⟨(takeF pool.length s').2, pool.eraseIdx (takeF pool.length s').1, found ++ [pool.getD (takeF pool.length s').1 0], d |> fun d => .va d, t2, ?_, ?_, ?_, ?_⟩
    · rw [List.length_eraseIdx_of_lt t3]; omega
    · rw [List.length_append, f1]; rfl
    · rw [e1, List.length_eraseIdx_of_lt t3]
      conv => lhs; rw [hk, pickF]
      rw [hk]
      simp
    · simp only [nL, List.map_append]
      have : (pool.map nD).eraseIdx (takeF pool.length s').1 = (pool.eraseIdx (takeF pool.length s').1).map nD := erase_map _ _
      rw [← this]
      rfl
  · rintro ρ2 ⟨s', pool, found, u5, t1, p1, f1, e1, rfl⟩
    rw [List.length_map, List.length_range] at p1
    have : pool = [] := List.length_eq_zero_iff.mp (by omega)
    subst this
    rw [e1]
    exact ⟨.ow (nL []), u5, by simp [pickF]⟩
  · rintro _ ⟨u3, u5, rfl⟩
    exact run_ret (EvD.frz (i := 4) rfl (ev_var rfl)) ⟨rfl, rfl⟩
def r__law_walk (s0 : D) (ds : List D) (s1 : D) (d : D) : Prop := ∃ (s : TinS) (n : Nat), n ≤ 100 ∧ TinOk 1000 s ∧ s0 = encT s ∧ ds = [nD n] ∧ s1 = encT (pickF n (List.range n) s).2 ∧ d = nT (pickF n (List.range n) s).1
theorem cal__law_walk (T : Txt K mg C) (Dx : DefAt K mg "_law_walk" s__law_walk f fd) (c__law_pick : CalD P w K mg base 2 "_law_pick" ["_law_tin", "_law_goods_so", "_law_count_so"] (spT 2 r__law_pick)) : CalD P w K mg base 3 "_law_walk" ["_law_tin", "_law_many_so"] (spT 1 r__law_walk) := by
  refine mkCalT (C := C) Dx sc__law_walk bd__law_walk rfl (by decide) fun f cdv A outer s H E hr => have hu := hu_of hr; ⟨_, (pss_one (ps_ret (pe_callTy (crTup K) (by rfl) T.tuple (by decide +kernel) (pa_cons (pe_d c__law_pick hr (by decide) (by rfl) (pa_cons (pv 0) (pa_cons (pe_listRg rfl (by rfl) T.list (prg_1 (by rfl) T.range (pv 1))) (pa_cons (pv 1) pa_nil)))) pa_nil)))), ?_⟩
  rintro s0 ds s1 d _ ⟨s, n, hz, hs, rfl, rfl, rfl, rfl⟩
  show Run C E _ [.ti (encT s), .va (nD n)] _
  have hp : r__law_pick (encT s) [nL (List.range n), nD n] (encT (pickF n (List.range n) s).2) (nL (pickF n (List.range n) s).1) := ⟨s, List.range n, by rw [List.length_range]; omega, hs, rfl, by rw [List.length_range], by rw [List.length_range], by rw [List.length_range]⟩
  exact run_ret (ρ1 := [.ti (encT s), .va (nD n)].set 0 (.ti (encT (pickF n (List.range n) s).2))) (ev_tupLv (ev_callT (ds := [_, _]) (st0 := encT s) rfl (ea_cons (EvD.fz (ev_lstRg (ev_var rfl) (by omega))) (ea_cons (ev_var rfl) ea_nil)) rfl hp rfl)) ⟨rfl, by rfl⟩
end
end K17
end

section
set_option maxRecDepth 100000
set_option maxHeartbeats 4000000
namespace K17
open PySem PySem.Spec PyProof.Rows L2 DL MN
section
variable {P : Program} {w : World} {K : PySem.W.Frag} {mg : Str → Option Value} {base : Heap} {C : Addr} {f : Addr} {fd : FuncData}


theorem ite01 (c : Prop) [Decidable c] : (0 : Int) ≤ (if c then 1 else 0) ∧ (if c then 1 else 0 : Int) ≤ 1 := by split <;> decide
theorem edgeF_ok {many n : Nat} {s : TinS} (hm : 20 ≤ many) (h : TinOk n s) : TinOk (n + 4) (edgeF many s).2 ∧ (edgeF many s).1.1 < many ∧ (edgeF many s).1.2 < many ∧ (edgeF many s).1.1 ≠ (edgeF many s).1.2 := by
  obtain ⟨a1, a2⟩ := takeF_ok h (m := many) (by omega)
  obtain ⟨b1, b2⟩ := takeF_ok a1 (m := 2) (by omega)
  unfold edgeF
  simp only
  generalize hone : takeF many s = one at a1 a2 b1 b2 ⊢
  generalize hi : takeF 2 one.2 = i at b1 b2 ⊢
  have hbelow : 0 < (if i.1 = 0 then 3 else many - 1) := by split <;> omega
  obtain ⟨c1, c2⟩ := takeF_ok b1 hbelow
  generalize hx : takeF (if i.1 = 0 then 3 else many - 1) i.2 = x at c1 c2 ⊢
  obtain ⟨d1, d2⟩ := takeF_ok c1 (m := 2) (by omega)
  generalize takeF 2 x.2 = c at d1 d2 ⊢
  have hx2 : x.1 + 1 < many := by
    have : x.1 < (if i.1 = 0 then 3 else many - 1) := c2
    split at this <;> omega
  have htwo : (one.1 + 1 + x.1) % many < many := Nat.mod_lt _ (by omega)
  have hne : (one.1 + 1 + x.1) % many ≠ one.1 := by
    by_cases h : one.1 + 1 + x.1 < many
    · rw [Nat.mod_eq_of_lt h]; omega
    · rw [Nat.mod_eq_sub_mod (by omega), Nat.mod_eq_of_lt (by omega)]; omega
  refine ⟨d1, ?_⟩
  by_cases hc : c.1 = 0
  · rw [if_pos hc]; exact ⟨a2, htwo, hne.symm⟩
  · rw [if_neg hc]; exact ⟨htwo, a2, hne⟩
theorem edgesF_ok {many : Nat} (hm : 20 ≤ many) : ∀ (k n : Nat) (s : TinS), TinOk n s → TinOk (n + 4 * k) (edgesF many k s).2 ∧ (edgesF many k s).1.length = k
  | 0, n, s, h => ⟨h, rfl⟩
  | k + 1, n, s, h => by
    obtain ⟨h1, h2⟩ := edgesF_ok hm k n s h
    rw [edgesF]
    refine ⟨(edgeF_ok hm h1).1.mono (by omega), ?_⟩
    show (_ ++ [_]).length = _
    rw [List.length_append, h2] <;> rfl
def boxF (x : Int) : TinS := ((if x < 0 then -x else x) * (if (10 : Int) ^ 18 ≤ (if x < 0 then -x else x) then 1 else 0), x.fmod 2305843009213693951 + 3196017, 0)
theorem boxF_ok (x : Int) : TinOk 0 (boxF x) := by
  have h1 := Int.fmod_nonneg_of_pos x (show (0 : Int) < 2305843009213693951 by decide)
  have h2 := Int.fmod_lt_of_pos x (show (0 : Int) < 2305843009213693951 by decide)
  refine ⟨?_, ?_, ?_, Int.le_refl _, Int.le_refl _⟩
  · show 0 ≤ (if x < 0 then -x else x) * _
    refine Int.mul_nonneg (by split <;> omega) (ite01 _).1
  · show 0 ≤ x.fmod 2305843009213693951 + 3196017; omega
  · show x.fmod 2305843009213693951 + 3196017 < 2 ^ 62; omega
def cellStep (ys : List Int) (c : Int) (k : Nat) : Int := c + ys.getD k 0 * ((k : Int) + 2)
def cellsF (xs : List Int) : Int := (List.range (xs.drop 1).length).foldl (cellStep (xs.drop 1)) (xs.headD 0)
/-- xs[:1], xs[1:63] -/
theorem sqL_up {K : PySem.W.Frag} {G H : Hp} {a : Addr} {xs : List V} (e : Same G H) (h : SqL K G a xs) : SqL K H a xs := e.seq h
theorem reps_int {G : Hp} : ∀ ns : List Int, Reps G (ns.map V.int) (ns.map D.int)
  | [] => .nil
  | n :: ns => .cons (.int n) (reps_int ns)
theorem ev_sl1 {K : PySem.W.Frag} {ρ ρ1 ρ2 : En} {ta tb : TE} {ns : List Int} (ha : EvD ta ρ ρ1 (.va (.scr K ns))) (hb : EvD tb ρ1 ρ2 (.va (.int 1))) : EvD (tSl (rSlL K) ta tNoPart (tPart tb)) ρ ρ2 (.ow (.lst ((ns.map D.int).take 1))) := fun t G0 H0 κ τ G H σ hl m Q q => by
  refine EvD.two ha hb hl m (Q := fun v u H2 => ∃ i, u = .int i ∧ rSlL K v none (some i) H2 Q) fun v u G1 H1 m1 => ?_
  obtain ⟨m0, hx, hy⟩ := m1.tail2
  have w1 := hx.rep
  have w2 := hy.rep
  cases w2
  cases w1 with
  | @scr a _ _ h1 =>
    obtain ⟨xs, exs⟩ : ∃ xs, xs = ns.map V.int := ⟨_, rfl⟩
    have h2 : Reps G1 xs (ns.map D.int) := by rw [exs]; exact reps_int ns
    have hxn : xs.length = ns.length := by rw [exs, List.length_map]
    rw [← exs] at h1
    refine ⟨_, rfl, a, xs, rfl, sqL_up m0.gr.gh h1, fun p hp => ?_⟩
    have e2 : cutV xs none (some (1 : Int)) = xs.take 1 := by
      unfold cutV
      rw [show HT.sIx xs.length 0 none = 0 from rfl, show (1 : Int) = ((1 : Nat) : Int) from rfl, HT.sIx_nat, List.drop_zero, Nat.sub_zero]
      by_cases h : 1 ≤ xs.length
      · rw [Nat.min_eq_left h]
      · rw [List.take_of_length_le (by omega), List.take_of_length_le (by omega)]
    rw [e2]
    exact q _ _ _ (m0.pushOw hp ⟨_, upd_same, h2.take 1⟩)
theorem ev_sl2 {K : PySem.W.Frag} {ρ ρ1 : En} {ta tb tc : TE} {ns : List Int} (hz : ns.length ≤ 63) (ha : EvD ta ρ ρ1 (.va (.scr K ns))) (hb : EvD tb ρ1 ρ1 (.va (.int 1))) (hc : EvD tc ρ1 ρ1 (.va (.int 63))) : EvD (tSl (rSlL K) ta (tPart tb) (tPart tc)) ρ ρ1 (.ow (.lst ((ns.map D.int).drop 1))) := fun t G0 H0 κ τ G H σ hl m Q q => by
  refine EvD.two ha hb hl m (Q := fun v u H2 => ∃ i, u = .int i ∧ tPart tc σ H2 fun o H3 => rSlL K v (some i) o H3 Q) fun v u G1 H1 m1 => ?_
  have w2 := m1.last.rep
  cases w2
  refine ⟨_, rfl, ?_⟩
  have m2 := m1.pop
  have hl1 := m2.pop.len4 (m.len2 (ρ' := ρ) hl)
  rw [List.append_assoc, List.append_assoc] at m2
  refine hc t G0 H0 _ _ G1 H1 σ hl1 m2 _ fun u G2 H2 m3 => ?_
  have w3 := m3.last.rep
  cases w3
  refine ⟨_, rfl, ?_⟩
  have m4 := m3.pop
  rw [← List.append_assoc, ← List.append_assoc] at m4
  have w1 := m4.last.rep
  cases w1 with
  | @scr a _ _ h1 =>
    obtain ⟨xs, exs⟩ : ∃ xs, xs = ns.map V.int := ⟨_, rfl⟩
    have h2 : Reps G2 xs (ns.map D.int) := by rw [exs]; exact reps_int ns
    have hxn : xs.length = ns.length := by rw [exs, List.length_map]
    rw [← exs] at h1
    refine ⟨a, xs, rfl, sqL_up m4.gr.gh h1, fun p hp => ?_⟩
    have hxl := h2.length
    have e2 : cutV xs (some (1 : Int)) (some (63 : Int)) = xs.drop 1 := by
      unfold cutV
      rw [show (1 : Int) = ((1 : Nat) : Int) from rfl, show (63 : Int) = ((63 : Nat) : Int) from rfl, HT.sIx_nat, HT.sIx_nat, Nat.min_eq_right (show xs.length ≤ 63 by omega)]
      by_cases h : 1 ≤ xs.length
      · rw [Nat.min_eq_left h, List.take_of_length_le (by rw [List.length_drop]; omega)]
      · have : xs = [] := List.length_eq_zero_iff.mp (by omega)
        subst this; rfl
    rw [e2]
    exact q _ _ _ (m4.pop.pushOw hp ⟨_, upd_same, h2.drop 1⟩)

def r__law_great_net (s0 : D) (ds : List D) (s1 : D) (d : D) : Prop := ∃ s : TinS, TinOk 1000 s ∧ s0 = encT s ∧ ds = [] ∧ s1 = encT (netF s).2 ∧ d = encW (netF s).1
theorem cal__law_great_net (T : Txt K mg C) (Dx : DefAt K mg "_law_great_net" s__law_great_net f fd) (c__law_of : CalD P w K mg base 2 "_law_of" ["_law_tin", "_law_goods_so"] (spT 1 r__law_of)) (c__law_take : CalD P w K mg base 1 "_law_take" ["_law_tin", "_law_below_so"] (spT 1 r__law_take)) : CalD P w K mg base 3 "_law_great_net" ["_law_tin"] (spT 0 r__law_great_net) := by
  refine mkCalT (C := C) Dx sc__law_great_net bd__law_great_net rfl (by decide) fun f cdv A outer s H E hr => have hu := hu_of hr; ⟨_, (pss_cons (ps_par (i := 1) (j := 2) rfl sc__law_great_net.nd rfl rfl (by decide) rfl rfl (pa_cons (pe_op op_add pe_int (pe_d c__law_take hr (by decide) (by rfl) (pa_cons (pv 0) (pa_cons pe_int pa_nil)))) (pa_cons (pe_lst pa_nil) pa_nil)) (by rfl))
      (pss_cons (ps_for PassesOwn.never rfl (pi_range1 rfl T.range (pa_cons (pe_op op_add pe_int (pe_d c__law_take hr (by decide) (by rfl) (pa_cons (pv 0) (pa_cons pe_int pa_nil)))) pa_nil)) (pg_name (i := 3) sc__law_great_net.nd rfl (Or.inl rfl)) (pss_cons (ps_set (i := 4) sc__law_great_net.nd rfl (Or.inl rfl) (pe_d c__law_take hr (by decide) (by rfl) (pa_cons (pv 0) (pa_cons (pv 1) pa_nil))))
      (pss_cons (ps_set (i := 5) sc__law_great_net.nd rfl (Or.inl rfl) (pe_op op_modN (pe_callTy call_int1 (by rfl) T.int (by decide +kernel) (pa_cons (pe_op op_add (pe_op op_add (pv 4) pe_int) (pe_d c__law_take hr (by decide) (by rfl) (pa_cons (pv 0) (pa_cons (pe_d c__law_of hr (by decide) (by rfl) (pa_cons (pv 0) (pa_cons (pe_lst (pa_cons pe_int (pa_cons (pe_op op_sub (pv 1) pe_int) pa_nil))) pa_nil))) pa_nil)))) pa_nil)) (pv 1)))
      (pss_one (ps_expr (bmL K PySem.F.slot_list_append PySem.F.type_list_append mt_append (pv 2) (pa_cons (pe_ifExp (pt_cmpR op_eq (pe_d c__law_take hr (by decide) (by rfl) (pa_cons (pv 0) (pa_cons pe_int pa_nil))) pe_int (nomark _)) (pe_tup (pa_cons (pv 4) (pa_cons (pv 5) pa_nil))) (pe_tup (pa_cons (pv 5) (pa_cons (pv 4) pa_nil)))) pa_nil)))))))
      (pss_one (ps_ret (pe_tup (pa_cons (pv 1) (pa_cons (pe_callTy (crTup K) (by rfl) T.tuple (by decide +kernel) (pa_cons (pv 2) pa_nil)) pa_nil))))))), ?_⟩
  rintro s0 ds s1 d _ ⟨s, hs, rfl, rfl, rfl, rfl⟩
  show Run C E _ [.ti (encT s), .un, .un, .un, .un, .un] _
  unfold netF
  simp only
  obtain ⟨x1, x2⟩ := takeF_ok hs (m := 21) (by omega)
  obtain ⟨y1, y2⟩ := takeF_ok x1 (m := 21) (by omega)
  have takeR : ∀ (n : Nat) (s : TinS) (m : Nat), n ≤ 100000 → TinOk n s → 0 < m → m < 1000 → r__law_take (encT s) [nD m] (encT (takeF m s).2) (nD (takeF m s).1) := fun n s m hn h h1 h2 => ⟨s, m, h1, h2, h.mono hn, rfl, rfl, rfl, rfl⟩
  have r1 := takeR _ s 21 (by omega) hs (by omega) (by omega)
  have r2 := takeR _ _ 21 (by omega) x1 (by omega) (by omega)
  generalize takeF 21 s = x at x1 x2 y1 y2 r1 r2 ⊢
  refine run_seq1 (run_par (ρ1 := [.ti (encT x.2), .un, .un, .un, .un, .un]) (ea_cons (EvD.is (ev_op (ev_c fun _ => .int _) (ev_callT (ds := [_]) (st0 := encT s) rfl (ea_cons (ev_c fun _ => .int _) ea_nil) rfl r1 rfl) opv_int) (d' := nD (20 + x.1)) (by simp)) (ea_cons (ev_lst (xs := []) ea_nil (by simp)) ea_nil)) rfl (by decide)) ?_
  generalize takeF 21 x.2 = y at y1 y2 r2 ⊢
  have hmany : 20 ≤ 20 + x.1 := by omega
  have hmz : 20 + x.1 ≤ 40 := by omega
  generalize 20 + x.1 = many at hmany hmz ⊢
  refine run_seq (fun ρ => ∃ u3 u4 u5, ρ = [.ti (encT (edgesF many (20 + y.1) y.2).2), .va (nD many), .ow (.lst ((edgesF many (20 + y.1) y.2).1.map encP)), u3, u4, u5])
    (run_for (ρ1 := [.ti (encT y.2), .va (nD many), .ow (.lst []), .un, .un, .un]) (ds := (List.range (20 + y.1)).map nD) (ei_range1 (ea_cons (EvD.is (ev_op (ev_c fun _ => .int _) (ev_callT (ds := [_]) (st0 := encT x.2) rfl (ea_cons (ev_c fun _ => .int _) ea_nil) rfl r2 rfl) opv_int) (d' := nD (20 + y.1)) (by simp)) ea_nil) (by omega))
      (fun i ρ => ∃ u3 u4 u5, ρ = [.ti (encT (edgesF many i y.2).2), .va (nD many), .ow (.lst ((edgesF many i y.2).1.map encP)), u3, u4, u5]) ⟨.un, .un, .un, rfl⟩ ?_ ?_) ?_
  · rintro i d _ hd ⟨u3, u4, u5, rfl⟩
    have hi : i < 20 + y.1 := by have := (List.getElem?_eq_some_iff.mp hd).1; simpa using this
    obtain ⟨e1, e2⟩ := edgesF_ok hmany i _ _ y1
    have es : edgesF many (i + 1) y.2 = ((edgesF many i y.2).1 ++ [(edgeF many (edgesF many i y.2).2).1], (edgeF many (edgesF many i y.2).2).2) := rfl
    rw [es]
    simp only
    generalize hE : edgesF many i y.2 = ed at e1 e2 ⊢
    obtain ⟨a1, a2⟩ := takeF_ok e1 (m := many) (by omega)
    obtain ⟨b1, b2⟩ := takeF_ok a1 (m := 2) (by omega)
    have ra := takeR _ ed.2 many (by omega) e1 (by omega) (by omega)
    unfold edgeF
    simp only
    have ro : r__law_of (encT (takeF many ed.2).2) [.lst [nD 3, .int ((many : Int) - 1)]] (encT (takeF 2 (takeF many ed.2).2).2) (nD (if (takeF 2 (takeF many ed.2).2).1 = 0 then 3 else many - 1)) := by
      have em : (many : Int) - 1 = ((many - 1 : Nat) : Int) := by omega
      refine ⟨(takeF many ed.2).2, [3, many - 1], by simp, by simp, a1.mono (by omega), rfl, by rw [em] <;> rfl, rfl, ?_⟩
      generalize takeF 2 (takeF many ed.2).2 = z at b2 ⊢
      have : z.1 = 0 ∨ z.1 = 1 := by omega
      rcases this with h | h
      · rw [if_pos h]; show nD 3 = nD ([3, many - 1].getD z.1 0); rw [h] <;> rfl
      · rw [if_neg (by omega)]; show nD (many - 1) = nD ([3, many - 1].getD z.1 0); rw [h] <;> rfl
    have hbelow : 0 < (if (takeF 2 (takeF many ed.2).2).1 = 0 then 3 else many - 1) ∧ (if (takeF 2 (takeF many ed.2).2).1 = 0 then 3 else many - 1) < 1000 := by split <;> omega
    have rx := takeR _ _ _ (by omega) b1 hbelow.1 hbelow.2
    obtain ⟨c1, c2⟩ := takeF_ok b1 hbelow.1
    generalize (if (takeF 2 (takeF many ed.2).2).1 = 0 then 3 else many - 1) = below at ro rx hbelow c1 c2 ⊢
    generalize takeF many ed.2 = one at ra a1 a2 b1 b2 ro rx c1 c2 ⊢
    generalize takeF 2 one.2 = ii at b1 b2 ro rx c1 c2 ⊢
    have rc := takeR _ _ 2 (by omega) c1 (by omega) (by omega)
    generalize takeF below ii.2 = xx at rx c1 c2 rc ⊢
    generalize takeF 2 xx.2 = cc at rc ⊢
    refine ⟨_, _, eg_name 3, ?_⟩
    refine run_seq1 (run_set (ev_callT (ds := [_]) (st0 := encT ed.2) rfl (ea_cons (ev_var rfl) ea_nil) rfl ra rfl) rfl) ?_
    refine run_seq1 (run_set (ρ1 := [.ti (encT xx.2), .va (nD many), .ow (.lst (ed.1.map encP)), .va d, .va (nD one.1), u5]) (EvD.is (ev_op (ev_call (xs := [_]) (ea_cons (ev_op (ev_op (ev_var rfl) (ev_c fun _ => .int _) opv_int) (ev_callT (ds := [_]) (st0 := encT one.2) rfl (ea_cons (ev_callT (ds := [_]) (st0 := encT one.2) rfl (ea_cons (EvD.fz (ev_lst (xs := [_, _]) (ea_cons (ev_c fun _ => .int _) (ea_cons (ev_op (ev_var rfl) (ev_c fun _ => .int _) opv_int) ea_nil)) (by simp))) ea_nil) rfl ro rfl) ea_nil) rfl rx rfl) opv_int) ea_nil) cv_intI) (ev_var rfl) (opv_intC (by omega))) (d' := nD ((one.1 + 1 + xx.1) % many)) ?_) rfl) ?_
    · show D.int _ = D.int _
      congr 1
      rw [Int.fmod_eq_emod_of_nonneg _ (by omega)]
      simp
    · refine run_drop (ev_append (d := encP (if cc.1 = 0 then (one.1, (one.1 + 1 + xx.1) % many) else ((one.1 + 1 + xx.1) % many, one.1))) (ρ1 := [.ti (encT cc.2), .va (nD many), .ow (.lst (ed.1.map encP)), .va d, .va (nD one.1), .va (nD ((one.1 + 1 + xx.1) % many))]) rfl (ev_if (b := decide (cc.1 = 0)) (EvT.is (et_test (ev_op (ev_callT (ds := [_]) (st0 := encT xx.2) rfl (ea_cons (ev_c fun _ => .int _) ea_nil) rfl rc rfl) (ev_c fun _ => .int _) opv_eqI)) ?_) (fun hb => ?_) (fun hb => ?_)) rfl (by rw [List.length_map]; omega)) ⟨.va d, .va (nD one.1), .va (nD ((one.1 + 1 + xx.1) % many)), ?_⟩
      · exact decide_eq_decide.mpr (by omega)
      · rw [if_pos (of_decide_eq_true hb)]
        exact ev_tup (xs := [_, _]) (ea_cons (ev_var rfl) (ea_cons (ev_var rfl) ea_nil)) (by simp)
      · rw [if_neg (of_decide_eq_false hb)]
        exact ev_tup (xs := [_, _]) (ea_cons (ev_var rfl) (ea_cons (ev_var rfl) ea_nil)) (by simp)
      · rw [List.map_append] <;> rfl
  · rintro ρ2 ⟨u3, u4, u5, rfl⟩
    rw [List.length_map, List.length_range]
    exact ⟨u3, u4, u5, rfl⟩
  · rintro _ ⟨u3, u4, u5, rfl⟩
    exact run_ret (ev_tup (xs := [_, _]) (ea_cons (ev_var rfl) (ea_cons (EvD.frz (i := 2) rfl (ev_tupLv (ev_var rfl))) ea_nil)) (by simp)) ⟨rfl, rfl⟩
def r__law_box (ds : List D) (d : D) : Prop := ∃ x : Int, ds = [.lst [.int x], .int 0] ∧ d = encT (boxF x)
theorem cal__law_box (T : Txt K mg C) (Dx : DefAt K mg "_law_box" s__law_box f fd)  : CalD P w K mg base 1 "_law_box" ["_law_script", "_law_k"] (spO 2 r__law_box) := by
  refine mkCalO Dx sc__law_box bd__law_box (by decide) fun f cdv A outer s H E hr => have hu := hu_of hr; ⟨_, (pss_cons (ps_set (i := 2) sc__law_box.nd rfl (Or.inl rfl) (pe_ifExp (pt_cmpR op_lt (pv 1) (pe_callB (crLen K) (by rfl) T.len PySem.boot_len (pa_cons (pv 0) pa_nil)) (nomark _)) (pe_ix (ixL K) (pv 0) (pv 1) (fun _ _ => rfl)) pe_int))
      (pss_one (ps_ret (pe_lst (pa_cons (pe_op op_mul (pe_callB call_abs (by rfl) T.abs (by decide +kernel) (pa_cons (pv 2) pa_nil)) (pe_callTy call_int1 (by rfl) T.int (by decide +kernel) (pa_cons (pe_cmpR op_ge (pe_callB call_abs (by rfl) T.abs (by decide +kernel) (pa_cons (pv 2) pa_nil)) (pe_op op_pow pe_int pe_int) (nomark _)) pa_nil))) (pa_cons (pe_op op_add (pe_op op_add (pe_op op_modN (pe_callTy call_int1 (by rfl) T.int (by decide +kernel) (pa_cons (pv 2) pa_nil)) pe_int) (pe_op op_mul pe_int (pv 1))) pe_int) (pa_cons pe_int pa_nil))))))), ?_⟩
  rintro ds d _ ⟨x, rfl, rfl⟩
  show RunO _ [.va (.lst [.int x]), .va (.int 0), .un] _
  refine runO_set (ρ1 := [.va (.lst [.int x]), .va (.int 0), .un]) (r := .va (.int x)) (ev_if (b := true) (et_test (ev_op (ev_var rfl) (ev_lenL (ev_var rfl)) opv_bl)) (fun _ => ev_ixL (ev_var rfl) (ev_var rfl) rfl) (fun z => by cases z)) ?_
  refine runO_ret (ρ1 := [.va (.lst [.int x]), .va (.int 0), .va (.int x)]) ?_
  have e1 : EvD (tCB (fun xs H Q => ∃ i, xs = [V.int i] ∧ Q (V.int (if i < 0 then -i else i)) H) (tCons (tVar 2) tNil)) [.va (.lst [.int x]), .va (.int 0), .va (.int x)] [.va (.lst [.int x]), .va (.int 0), .va (.int x)] (.va (.int (if x < 0 then -x else x))) := ev_call (xs := [_]) (ea_cons (ev_var rfl) ea_nil) cv_abs
  have e2 := ev_op (r := rI CPow fun i j => .int (i ^ j.toNat)) (ρ := [.va (.lst [.int x]), .va (.int 0), .va (.int x)]) (ta := tC (.int 10)) (tb := tC (.int 18)) (x := .int 10) (y := .int 18) (ev_c fun _ => .int _) (ev_c fun _ => .int _) (opv_intC ⟨by decide, by decide, by decide⟩)
  have hd : encT (boxF x) = .lst [.int ((if x < 0 then -x else x) * (if decide ((10 : Int) ^ (18 : Int).toNat ≤ (if x < 0 then -x else x)) = true then 1 else 0)), .int (x.fmod 2305843009213693951 + 39373 * 0 + 3196017), .int 0] := by
    unfold boxF
    simp
  rw [hd]
  refine ev_lst (xs := [_, _, _]) (ea_cons (ev_op e1 (ev_call (xs := [_]) (ea_cons (ev_op e1 e2 opv_bl) ea_nil) cv_intB) (opv_intC (.inr ?_))) (ea_cons (ev_op (ev_op (ev_op (ev_call (xs := [_]) (ea_cons (ev_var rfl) ea_nil) cv_intI) (ev_c fun _ => .int _) (opv_intC (by decide))) (ev_op (ev_c fun _ => .int _) (ev_var rfl) (opv_intC (.inl ⟨by decide, by decide⟩))) opv_int) (ev_c fun _ => .int _) opv_int) (ea_cons (ev_c fun _ => .int _) ea_nil))) (by simp)
  have := ite01 (decide ((10 : Int) ^ (18 : Int).toNat ≤ (if x < 0 then -x else x)) = true)
  constructor <;> omega
def r__law_cells (ds : List D) (r : Option D) : Prop := ∃ xs : List Int, xs.length ≤ 63 ∧ ds = [.scr K xs, .int 1] ∧ r = some (.lst [.int (cellsF xs)])
theorem cal__law_cells (T : Txt K mg C) (Dx : DefAt K mg "_law_cells" s__law_cells f fd)  : CalD P w K mg base 1 "_law_cells" ["_law_script", "_law_most_so"] (spD C 2 (r__law_cells (K := K))) := by
  refine mkCal Dx sc__law_cells bd__law_cells (by decide) fun f cdv A outer s H E hr => have hu := hu_of hr; ⟨_, (pss_cons (ps_set (i := 2) sc__law_cells.nd rfl (Or.inl rfl) (pe_orT (pe_callTy (crLst K) (by rfl) T.list (by decide +kernel) (pa_cons (pe_slice (slL K) (pv 0) po_none (po_some (pv 1))) pa_nil)) (pe_one (pe_lst (pa_cons pe_int pa_nil)))))
      (pss_cons (ps_for PassesOwn.never rfl (piEnumL K (by rfl) T.enumerate (pa_cons (pe_slice (slL K) (pv 0) (po_some (pv 1)) (po_some pe_int)) pa_nil)) (pgT K (n := 2) (pgs_cons (pg_name (i := 3) sc__law_cells.nd rfl (Or.inl rfl)) (pgs_cons (pg_name (i := 4) sc__law_cells.nd rfl (Or.inl rfl)) pgs_nil))) (pss_cons (ps_set (i := 5) sc__law_cells.nd rfl (Or.inl rfl) (pe_op op_modN (pe_callTy call_int1 (by rfl) T.int (by decide +kernel) (pa_cons (pv 3) pa_nil)) (pv 1)))
      (pss_one (ps_asg (pe_op op_add (pe_ix (ixL K) (pv 2) (pv 5) (fun _ _ => rfl)) (pe_op op_mul (pv 4) (pe_op op_add (pv 3) pe_int))) (pg_sub (pv 2) (pv 5) set_list)))))
      (pss_one (ps_ret (pv 2))))), ?_⟩
  rintro ds r _ ⟨xs, hz, rfl, rfl⟩
  show Run C E _ [.va (.scr K xs), .va (.int 1), .un, .un, .un, .un] _
  have h0 : (if ((xs.map D.int).take 1).isEmpty then [D.int 0] else (xs.map D.int).take 1) = [.int (xs.headD 0)] := by cases xs <;> rfl
  have hs : EvD _ [.va (.scr K xs), .va (.int 1), .un, .un, .un, .un] _ _ := ev_orL (K := K) (ρ1 := [.va (.scr K xs), .va (.int 1), .un, .un, .un, .un]) (r := .un) (ev_lstL (K := K) (EvD.fz (ev_sl1 (K := K) (ta := tVar 0) (tb := tVar 1) (ev_var rfl) (ev_var rfl)))) (fun _ => ev_lst (xs := [_]) (ea_cons (ev_c (v := .int 0) (d := .int 0) fun _ => .int _) ea_nil) (by simp))
  rw [h0] at hs
  refine run_seq1 (run_set hs rfl) ?_
  refine run_seq (fun ρ => ∃ u3 u4 u5, ρ = [.va (.scr K xs), .va (.int 1), .ow (.lst [.int (cellsF xs)]), u3, u4, u5])
    (run_for (ds := enumD ((xs.drop 1).map D.int)) (ei_enumL (ea_cons (EvD.is (EvD.fz (ev_sl2 hz (ev_var rfl) (ev_var rfl) (ev_c fun _ => .int _))) (by rw [List.map_drop])) ea_nil)) (fun i ρ => ∃ u3 u4 u5, ρ = [.va (.scr K xs), .va (.int 1), .ow (.lst [.int ((List.range i).foldl (cellStep (xs.drop 1)) (xs.headD 0))]), u3, u4, u5]) ⟨_, _, _, rfl⟩ ?_ ?_) ?_
  · rintro i d _ hd ⟨u3, u4, u5, rfl⟩
    obtain ⟨e, he, rfl⟩ := enumD_at hd
    rw [List.getElem?_map] at he
    cases hx : (xs.drop 1)[i]? with
    | none => rw [hx] at he; cases he
    | some y =>
      rw [hx] at he; cases he
      have hy : (xs.drop 1).getD i 0 = y := by rw [List.getD_eq_getElem?_getD, hx] <;> rfl
      have hil : i < (xs.drop 1).length := (List.getElem?_eq_some_iff.mp hx).1
      rw [List.length_drop] at hil
      rw [List.range_succ, List.foldl_append]
      generalize (List.range i).foldl (cellStep (xs.drop 1)) (xs.headD 0) = c
      refine ⟨_, _, eg_tup (egs_name (egs_name egs_nil)) rfl, ?_⟩
      refine run_seq1 (run_set (EvD.is (ev_op (ev_call (xs := [_]) (ea_cons (ev_var rfl) ea_nil) cv_intI) (ev_var rfl) (opv_intC (by decide))) (d' := .int 0) (by show D.int ((i : Int).fmod 1) = _; rw [Int.fmod_one])) rfl) ?_
      refine run_setAt (k := 0) (d := .int (c + y * ((i : Int) + 2))) (EvD.bor (ev_op (ev_ixL (ev_var rfl) (ev_var rfl) rfl) (ev_op (ev_var rfl) (ev_op (ev_var rfl) (ev_c fun _ => .int _) opv_int) (opv_intC (.inr ⟨by show -(2 ^ 64) < (i : Int) + 2; omega, by show (i : Int) + 2 < 2 ^ 64; omega⟩))) opv_int) rfl) rfl (ev_var rfl) (by simp) ⟨.va (nD i), .va (.int y), .va (.int 0), ?_⟩
      show _ = [_, _, Sl.ow (.lst [.int (cellStep (xs.drop 1) c i)]), _, _, _]
      unfold cellStep
      rw [hy] <;> rfl
  · rintro ρ2 ⟨u3, u4, u5, rfl⟩
    rw [enumD_length, List.length_map]
    exact ⟨u3, u4, u5, rfl⟩
  · rintro _ ⟨u3, u4, u5, rfl⟩
    exact run_ret (EvD.frz (i := 2) rfl (ev_var rfl)) rfl

mutual
def listD : D → D
  | .lst ds => .lst (listDs ds)
  | .tup ds => .lst (listDs ds)
  | d => d
def listDs : List D → List D
  | [] => []
  | d :: ds => listD d :: listDs ds
end
theorem listDs_map : ∀ ds : List D, listDs ds = ds.map listD
  | [] => by simp [listDs]
  | d :: ds => by rw [listDs, listDs_map ds, List.map_cons]
/-! lists, by depth -/
def r__law_listsN (n : Nat) (ds : List D) (r : Option D) : Prop := ∃ d : D, depD d < n ∧ wid d = true ∧ ds = [d] ∧ r = some (listD d)
abbrev r__law_lists := r__law_listsN 5
theorem cal__law_listsN (T : Txt K mg C) (Dx : DefAt K mg "_law_lists" s__law_lists f fd) : ∀ n : Nat, CalD P w K mg base (n + 1) "_law_lists" ["_law_matter"] (spD C 1 (r__law_listsN n))
  | 0 => mkCalX Dx sc__law_lists bd__law_lists (by decide) fun f cdv A outer s H E hr ds r _ h => by
    obtain ⟨d, h, _⟩ := h
    exact absurd h (Nat.not_lt_zero _)
  | n + 1 => by
    have c__law_lists : CalD P w K mg base (n + 1) "_law_lists" ["_law_matter"] (spD C 1 (r__law_listsN n)) := cal__law_listsN T Dx n
    have go : ∀ (ds : List D) (d : D), depD d = depDs ds + 1 → depD d < n + 1 → wids ds = true → ds.length ≤ 1000 → (∀ d ∈ ds, r__law_listsN n [d] (some (listD d))) := fun ds d e h hw hz x hx => ⟨x, by have := depDs_mem hx; omega, wids_mem hw hx, rfl, rfl⟩
    refine mkCalX Dx sc__law_lists bd__law_lists (by decide) fun f cdv A outer s H E hr ds r _ h => ?_
    obtain ⟨d, hd, hw, rfl, rfl⟩ := h
    match d, hd, hw with
    | .lst ds, hd, hw =>
      rw [wid, Bool.and_eq_true] at hw
      have hz : ds.length ≤ 1000 := of_decide_eq_true hw.2
      refine ⟨_, PSs.nox (pss_one (ps_ret (pe_ifExp (pt_val (pe_callB (crIsiT K) (by rfl) T.isinstance (by decide +kernel) (pa_cons (pv 0) (pa_cons (pe_tup (pa_cons (pe_bltn (v := .ty "list") (u := .type "list") (by rfl) T.list (by decide +kernel) rfl) (pa_cons (pe_bltn (v := .ty "tuple") (u := .type "tuple") (by rfl) T.tuple (by decide +kernel) rfl) pa_nil))) pa_nil)))) (pe_lc (own := [("_law_bit", 1)]) rfl sc__law_lists.nd (piL K (pv 0)) (blkOk_by rfl) (fun _ _ _ _ _ => (pg_name (i := 1) sc__law_lists.nd rfl (Or.inl rfl))) (fun _ _ _ _ _ => pts_nil) (fun _ _ _ _ _ => (pe_d c__law_lists hr (Nat.le_refl _) (by rfl) (pa_cons (pv 1) pa_nil)))) (pv 0)))), ?_⟩
      show Run C E _ [.va (.lst ds), .un] _
      refine run_ret (ev_if (b := true) (et_test (EvD.is (ev_call (xs := [_, _]) (ea_cons (ev_var rfl) (ea_cons (ev_tup (xs := [_, _]) (ea_cons (ev_c fun _ => .ty _) (ea_cons (ev_c fun _ => .ty _) ea_nil)) (by simp)) ea_nil)) (cv_isiT rfl k_list_list k_list_tuple)) rfl)) (fun _ => EvD.fz (ev_lcM ds id listD (fun x => [.va (.lst ds), .va x]) ?_ (by omega) rfl (fun x _ => eg_name 1) (fun x hx => ?_) (fun _ _ => rfl) (by simp))) (fun z => by cases z)) ?_
      · rw [List.map_id]; exact ei_list (ev_var rfl)
      · exact ev_callD (ds := [_]) (ea_cons (ev_var rfl) ea_nil) (go ds _ rfl hd hw.1 hz x hx) rfl
      · show some _ = some _
        rw [listD, listDs_map]
    | .tup ds, hd, hw =>
      rw [wid, Bool.and_eq_true] at hw
      have hz : ds.length ≤ 1000 := of_decide_eq_true hw.2
      refine ⟨_, PSs.nox (pss_one (ps_ret (pe_ifExp (pt_val (pe_callB (crIsiT K) (by rfl) T.isinstance (by decide +kernel) (pa_cons (pv 0) (pa_cons (pe_tup (pa_cons (pe_bltn (v := .ty "list") (u := .type "list") (by rfl) T.list (by decide +kernel) rfl) (pa_cons (pe_bltn (v := .ty "tuple") (u := .type "tuple") (by rfl) T.tuple (by decide +kernel) rfl) pa_nil))) pa_nil)))) (pe_lc (own := [("_law_bit", 1)]) rfl sc__law_lists.nd (piT K (pv 0)) (blkOk_by rfl) (fun _ _ _ _ _ => (pg_name (i := 1) sc__law_lists.nd rfl (Or.inl rfl))) (fun _ _ _ _ _ => pts_nil) (fun _ _ _ _ _ => (pe_d c__law_lists hr (Nat.le_refl _) (by rfl) (pa_cons (pv 1) pa_nil)))) (pv 0)))), ?_⟩
      show Run C E _ [.va (.tup ds), .un] _
      refine run_ret (ev_if (b := true) (et_test (EvD.is (ev_call (xs := [_, _]) (ea_cons (ev_var rfl) (ea_cons (ev_tup (xs := [_, _]) (ea_cons (ev_c fun _ => .ty _) (ea_cons (ev_c fun _ => .ty _) ea_nil)) (by simp)) ea_nil)) (cv_isiT rfl k_tuple_list k_tuple_tuple)) rfl)) (fun _ => EvD.fz (ev_lcM ds id listD (fun x => [.va (.tup ds), .va x]) ?_ (by omega) rfl (fun x _ => eg_name 1) (fun x hx => ?_) (fun _ _ => rfl) (by simp))) (fun z => by cases z)) ?_
      · rw [List.map_id]; exact ei_tup (ev_var rfl)
      · exact ev_callD (ds := [_]) (ea_cons (ev_var rfl) ea_nil) (go ds _ rfl hd hw.1 hz x hx) rfl
      · show some _ = some _
        rw [listD, listDs_map]
    | .int i, hd, hw =>
      refine ⟨_, PSs.nox (pss_one (ps_ret (pe_ifExp (pt_val (pe_callB (crIsiT K) (by rfl) T.isinstance (by decide +kernel) (pa_cons (pv 0) (pa_cons (pe_tup (pa_cons (pe_bltn (v := .ty "list") (u := .type "list") (by rfl) T.list (by decide +kernel) rfl) (pa_cons (pe_bltn (v := .ty "tuple") (u := .type "tuple") (by rfl) T.tuple (by decide +kernel) rfl) pa_nil))) pa_nil)))) (pe_lc (own := [("_law_bit", 1)]) rfl sc__law_lists.nd (piT K (pv 0)) (blkOk_by rfl) (fun _ _ _ _ _ => (pg_name (i := 1) sc__law_lists.nd rfl (Or.inl rfl))) (fun _ _ _ _ _ => pts_nil) (fun _ _ _ _ _ => (pe_d c__law_lists hr (Nat.le_refl _) (by rfl) (pa_cons (pv 1) pa_nil)))) (pv 0)))), ?_⟩
      show Run C E _ [.va (.int i), .un] _
      exact run_ret (ev_if (b := false) (et_test (EvD.is (ev_call (xs := [_, _]) (ea_cons (ev_var rfl) (ea_cons (ev_tup (xs := [_, _]) (ea_cons (ev_c fun _ => .ty _) (ea_cons (ev_c fun _ => .ty _) ea_nil)) (by simp)) ea_nil)) (cv_isiT rfl k_int_list k_int_tuple)) rfl)) (fun z => by cases z) fun _ => (ev_var rfl)) rfl
    | .non, _, hw => exact absurd hw (by simp [wid])
    | .bl _, _, hw => exact absurd hw (by simp [wid])
    | .str _, _, hw => exact absurd hw (by simp [wid])
    | .dic _ _, _, hw => exact absurd hw (by simp [wid])
    | .ob _, _, hw => exact absurd hw (by simp [wid])
    | .ty _, _, hw => exact absurd hw (by simp [wid])
    | .scr _ _, _, hw => exact absurd hw (by simp [wid])
theorem cal__law_lists (T : Txt K mg C) (Dx : DefAt K mg "_law_lists" s__law_lists f fd) : CalD P w K mg base 6 "_law_lists" ["_law_matter"] (spD C 1 r__law_lists) := cal__law_listsN T Dx 5

end
end K17
end

section
set_option maxRecDepth 100000
set_option maxHeartbeats 4000000
namespace K17
open PySem PySem.Spec PyProof.Rows L2 DL MN
section
variable {P : Program} {w : World} {K : PySem.W.Frag} {mg : Str → Option Value} {base : Heap} {C : Addr} {f : Addr} {fd : FuncData}

def r__law_unwanted (ds : List D) (r : Option D) : Prop := ∃ w : Web, w.Ok ∧ ds = [encW w] ∧ r = some (nL (unwantedIn w))
theorem cal__law_unwanted (T : Txt K mg C) (Dx : DefAt K mg "_law_unwanted" s__law_unwanted f fd)  : CalD P w K mg base 1 "_law_unwanted" ["_law_net"] (spD C 1 r__law_unwanted) := by
  refine mkCal Dx sc__law_unwanted bd__law_unwanted (by decide) fun f cdv A outer s H E hr => have hu := hu_of hr; ⟨_, (pss_cons (ps_set (i := 1) sc__law_unwanted.nd rfl (Or.inr rfl) (pe_lc (own := [("_law_own", 2)]) rfl sc__law_unwanted.nd (piT K (pe_ix (ixT K) (pv 0) pe_int (fun _ _ => rfl))) (blkOk_by rfl) (fun _ _ _ _ _ => (pg_name (i := 2) sc__law_unwanted.nd rfl (Or.inl rfl))) (fun _ _ _ _ _ => pts_nil) (fun _ _ _ _ _ => (pe_ix (ixT K) (pv 2) pe_int (fun _ _ => rfl)))))
      (pss_one (ps_ret (pe_lc (own := [("_law_own", 2)]) rfl sc__law_unwanted.nd (pi_range1 rfl T.range (pa_cons (pe_ix (ixT K) (pv 0) pe_int (fun _ _ => rfl)) pa_nil)) (blkOk_by rfl) (fun _ _ _ _ _ => (pg_name (i := 2) sc__law_unwanted.nd rfl (Or.inl rfl))) (fun _ _ _ _ _ => (pts_one (pt_cmpR (opNi K) (pv 2) (pv 1) rfl))) (fun _ _ _ _ _ => (pv 2)))))), ?_⟩
  rintro ds r _ ⟨w, hw, rfl, rfl⟩
  show Run C E _ [.va (encW w), .un, .un] _
  have hf := hw.few
  have hs := hw.small
  refine run_seq1 (run_set (EvD.is (EvD.fz (ev_lcM w.gs encP (fun p => nD p.1) (fun p => [.va (encW w), .un, .va (encP p)]) (ei_tup (ev_w1 rfl)) (by omega) rfl (fun x _ => eg_name 2) (fun x _ => ev_ixT (ev_var rfl) (ev_c fun _ => .int _) rfl) (fun _ _ => rfl) (by simp))) (d' := nL (w.gs.map (·.1))) (by simp only [nL, List.map_map]; rfl)) rfl) ?_
  exact run_ret (EvD.fz (ev_lcP (List.range w.many) nD (fun p => !decide (p ∈ w.gs.map (·.1))) nD (fun p => [.va (encW w), .va (nL (w.gs.map (·.1))), .va (nD p)]) (ei_range1 (ea_cons (ev_w0 rfl) ea_nil) (by omega)) (by simp; omega) rfl (fun x _ => eg_name 2) (fun x hx => et_test (ev_op (ev_var rfl) (ev_var rfl) opv_ni_nL)) (fun x _ _ => (ev_var rfl)) (fun _ _ => rfl) (by simp))) rfl
def r__law_seat (ds : List D) (r : Option D) : Prop := ∃ (w : Web) (taken : List Nat) (k : Nat), k < w.gs.length ∧ ds = [encW w, nL taken, nD k] ∧ r = some (oD (lawSeat w taken k))
theorem cal__law_seat (T : Txt K mg C) (Dx : DefAt K mg "_law_seat" s__law_seat f fd)  : CalD P w K mg base 1 "_law_seat" ["_law_net", "_law_taken_so", "_law_k"] (spD C 3 r__law_seat) := by
  refine mkCal Dx sc__law_seat bd__law_seat (by decide) fun f cdv A outer s H E hr => have hu := hu_of hr; ⟨_, (pss_cons (ps_asg (pe_ix (ixT K) (pe_ix (ixT K) (pv 0) pe_int (fun _ _ => rfl)) (pv 2) (fun _ _ => rfl)) (pgT K (n := 2) (pgs_cons (pg_name (i := 3) sc__law_seat.nd rfl (Or.inl rfl)) (pgs_cons (pg_name (i := 4) sc__law_seat.nd rfl (Or.inl rfl)) pgs_nil))))
      (pss_cons (ps_if (pt_cmpR (opNi K) (pv 3) (pv 1) rfl) (pss_one (ps_ret (pv 3))) pss_nil)
      (pss_one (ps_ret (pe_ifExp (pt_cmpR (opNi K) (pv 4) (pv 1) rfl) (pv 4) pe_non))))), ?_⟩
  rintro ds r _ ⟨w, taken, k, hk, rfl, rfl⟩
  show Run C E _ [.va (encW w), .va (nL taken), .va (nD k), .un, .un] _
  refine run_seq1 (run_asg (ev_wg rfl (ev_var rfl) hk) (eg_tup (egs_name (egs_name egs_nil)) rfl) rfl) ?_
  unfold lawSeat
  refine run_seq (fun ρ => ¬ (w.g k).1 ∉ taken ∧ ρ = [.va (encW w), .va (nL taken), .va (nD k), .va (nD (w.g k).1), .va (nD (w.g k).2)]) (run_if (et_test (ev_op (ev_var rfl) (ev_var rfl) opv_ni_nL)) (fun hb => run_ret (ev_var rfl) ?_) fun hb => run_next ⟨by simpa using hb, rfl⟩) ?_
  · show some _ = some _
    rw [if_pos (by simpa using hb)]
  · rintro _ ⟨h, rfl⟩
    rw [if_neg h]
    refine run_ret (ρ1 := [.va (encW w), .va (nL taken), .va (nD k), .va (nD (w.g k).1), .va (nD (w.g k).2)]) (ev_if (et_test (ev_op (ev_var rfl) (ev_var rfl) opv_ni_nL)) (r := .va (oD (if (w.g k).2 ∉ taken then some (w.g k).2 else none))) (fun hb => ?_) fun hb => ?_) rfl
    · rw [if_pos (by simpa using hb)]; exact (ev_var rfl)
    · rw [if_neg (by simpa using hb)]; exact (ev_c fun _ => .non)

theorem run_lens (w : Web) : ∀ (walk : List Nat) (s : List (Option Nat) × List Nat), (walk.foldl (runStep w) s).1.length = s.1.length ∧ (walk.foldl (runStep w) s).2.length ≤ s.2.length + walk.length
  | [], s => ⟨rfl, Nat.le_refl _⟩
  | k :: walk, s => by
    obtain ⟨h1, h2⟩ := run_lens w walk (runStep w s k)
    rw [List.foldl_cons, h1]
    have a1 : (runStep w s k).1.length = s.1.length := by unfold runStep; rw [List.length_set]
    have a2 : (runStep w s k).2.length ≤ s.2.length + 1 := by
      unfold runStep
      rw [List.length_append]
      cases lawSeat w s.2 k <;> simp
    exact ⟨a1, by rw [List.length_cons]; omega⟩
theorem rep_flat (n : Nat) : (List.replicate n [D.non]).flatten = (List.replicate n (none : Option Nat)).map oD := by
  induction n with
  | zero => rfl
  | succ n ih => rw [List.replicate_succ, List.flatten_cons, ih, List.replicate_succ, List.map_cons] <;> rfl

def r__law_run (ds : List D) (r : Option D) : Prop := ∃ (w : Web) (walk : List Nat), w.Ok ∧ (∀ k ∈ walk, k < w.gs.length) ∧ walk.length ≤ 1000 ∧ ds = [encW w, nT walk] ∧ r = some (.tup ((lawRun w walk).map oD))
theorem cal__law_run (T : Txt K mg C) (Dx : DefAt K mg "_law_run" s__law_run f fd) (c__law_seat : CalD P w K mg base 1 "_law_seat" ["_law_net", "_law_taken_so", "_law_k"] (spD C 3 r__law_seat)) : CalD P w K mg base 2 "_law_run" ["_law_net", "_law_walk_here"] (spD C 2 r__law_run) := by
  refine mkCal Dx sc__law_run bd__law_run (by decide) fun f cdv A outer s H E hr => have hu := hu_of hr; ⟨_, (pss_cons (ps_par (i := 2) (j := 3) rfl sc__law_run.nd rfl rfl (by decide) rfl rfl (pa_cons (pe_op op_rep (pe_lst (pa_cons pe_non pa_nil)) (pe_callB (crLen K) (by rfl) T.len PySem.boot_len (pa_cons (pe_ix (ixT K) (pv 0) pe_int (fun _ _ => rfl)) pa_nil))) (pa_cons (pe_lst pa_nil) pa_nil)) (by rfl))
      (pss_cons (ps_for PassesOwn.never rfl (piT K (pv 1)) (pg_name (i := 4) sc__law_run.nd rfl (Or.inl rfl)) (pss_cons (ps_set (i := 5) sc__law_run.nd rfl (Or.inl rfl) (pe_d c__law_seat hr (by decide) (by rfl) (pa_cons (pv 0) (pa_cons (pv 3) (pa_cons (pv 4) pa_nil)))))
      (pss_cons (ps_asg (pv 5) (pg_sub (pv 2) (pv 4) set_list))
      (pss_one (ps_if (pt_cmpR op_notN (pv 5) pe_non (nomark _)) (pss_one (ps_expr (bmL K PySem.F.slot_list_append PySem.F.type_list_append mt_append (pv 3) (pa_cons (pv 5) pa_nil)))) pss_nil)))))
      (pss_one (ps_ret (pe_callTy (crTup K) (by rfl) T.tuple (by decide +kernel) (pa_cons (pv 2) pa_nil)))))), ?_⟩
  rintro ds r _ ⟨w, walk, hw, hk, hz, rfl, rfl⟩
  show Run C E _ [.va (encW w), .va (nT walk), .un, .un, .un, .un] _
  have hf := hw.few
  refine run_seq1 (run_par (ea_cons (ev_opO (EvD.fz (ev_lst (xs := [_]) (ea_cons (ev_c fun _ => .non) ea_nil) (by simp))) (ev_lenG rfl) (opo_rep (by simp; omega) (by omega))) (ea_cons (ev_lst (xs := []) ea_nil (by simp)) ea_nil)) rfl (by decide)) ?_
  rw [rep_flat]
  refine run_seq (fun ρ => ∃ u3 u4 u5, ρ = [.va (encW w), .va (nT walk), .ow (.lst ((lawRun w walk).map oD)), u3, u4, u5])
    (run_forP walk nD (fun pre ρ => ∃ u4 u5, noOw u4 = true ∧ noOw u5 = true ∧ ρ = [.va (encW w), .va (nT walk), .ow (.lst ((pre.foldl (runStep w) (List.replicate w.gs.length none, [])).1.map oD)), .ow (nL (pre.foldl (runStep w) (List.replicate w.gs.length none, [])).2), u4, u5]) (ei_tup (ev_var rfl)) ⟨.un, .un, rfl, rfl, rfl⟩ ?_ fun ρ2 ⟨u4, u5, _, _, h⟩ => ⟨_, u4, u5, h⟩) ?_
  · rintro pre k post _ e ⟨u4, u5, o4, o5, rfl⟩
    have hkl := hk k (by rw [e]; simp)
    have hpl : pre.length ≤ 1000 := by have := congrArg List.length e; simp at this; omega
    obtain ⟨l1, l2⟩ := run_lens w pre (List.replicate w.gs.length none, [])
    rw [List.foldl_append]
    show ∃ js ρ3, _
    have es : [k].foldl (runStep w) (pre.foldl (runStep w) (List.replicate w.gs.length none, [])) = runStep w (pre.foldl (runStep w) (List.replicate w.gs.length none, [])) k := rfl
    rw [es]
    generalize pre.foldl (runStep w) (List.replicate w.gs.length none, []) = st at l1 l2 ⊢
    obtain ⟨seats, taken⟩ := st
    have l1 : seats.length = w.gs.length := by simpa using l1
    have l2 : taken.length ≤ pre.length := by simpa using l2
    refine ⟨_, _, eg_name 4, ?_⟩
    have hb : EvD (tCall (spD C 3 r__law_seat) [] E0 (tCons (tVar 0) (tCons (tVar 3) (tCons (tVar 4) tNil)))) [.va (encW w), .va (nT walk), .ow (.lst (seats.map oD)), .ow (nL taken), .va (nD k), u5] [.va (encW w), .va (nT walk), .ow (.lst (seats.map oD)), .ow (nL taken), .va (nD k), u5] (.va (oD (lawSeat w taken k))) := by
      refine EvD.bor (ev_callD (ds := [_, _, _]) (ea_cons (ev_var rfl) (ea_cons (ev_var rfl) (ea_cons (ev_var rfl) ea_nil))) ⟨w, taken, k, hkl, rfl, rfl⟩ rfl) ?_
      cases lawSeat w taken k <;> rfl
    refine run_seq1 (run_set hb rfl) ?_
    refine run_seq1 (run_setAt (k := k) (d := oD (lawSeat w taken k)) (ev_var rfl) rfl (ev_var rfl) (by rw [List.length_map, l1]; exact hkl) rfl) ?_
    have hset : (seats.map oD).set k (oD (lawSeat w taken k)) = (seats.set k (lawSeat w taken k)).map oD := by rw [List.map_set]
    unfold runStep
    simp only
    rw [← hset]
    cases hs : lawSeat w taken k with
    | none =>
      refine run_if (b := false) (et_test (ev_op (ev_var rfl) (ev_c fun _ => .non) opv_notN)) (fun z => by cases z) fun _ => run_next ⟨.va (nD k), .va .non, rfl, rfl, ?_⟩
      simp only [Option.toList_none, List.append_nil]
      rfl
    | some p =>
      refine run_if (b := true) (et_test (ev_op (ev_var rfl) (ev_c fun _ => .non) opv_notN)) (fun _ => run_drop (ev_append rfl (ev_var rfl) rfl (by rw [List.length_map]; omega)) ⟨.va (nD k), .va (nD p), rfl, rfl, ?_⟩) (fun z => by cases z)
      simp only [Option.toList_some, nL, List.map_append]
      rfl
  · rintro _ ⟨u3, u4, u5, rfl⟩
    exact run_ret (EvD.frz (i := 2) rfl (ev_tupLv (ev_var rfl))) rfl
def r__law_lacking (ds : List D) (r : Option D) : Prop := ∃ seats : List (Option Nat), seats.length ≤ 1000 ∧ ds = [.tup (seats.map oD)] ∧ r = some (nT (lawLacking seats))
theorem cal__law_lacking (T : Txt K mg C) (Dx : DefAt K mg "_law_lacking" s__law_lacking f fd)  : CalD P w K mg base 1 "_law_lacking" ["_law_seats"] (spD C 1 r__law_lacking) := by
  refine mkCal Dx sc__law_lacking bd__law_lacking (by decide) fun f cdv A outer s H E hr => have hu := hu_of hr; ⟨_, (pss_one (ps_ret (pe_callTy (crTup K) (by rfl) T.tuple (by decide +kernel) (pa_cons (pe_lc (own := [("_law_k", 1), ("_law_own", 2)]) rfl sc__law_lacking.nd (pi_enumT K (by rfl) T.enumerate (pa_cons (pv 0) pa_nil)) (blkOk_by rfl) (fun _ _ _ _ _ => (pgT K (n := 2) (pgs_cons (pg_name (i := 1) sc__law_lacking.nd rfl (Or.inl rfl)) (pgs_cons (pg_name (i := 2) sc__law_lacking.nd rfl (Or.inl rfl)) pgs_nil)))) (fun _ _ _ _ _ => (pts_one (pt_cmpR op_isN (pv 2) pe_non (nomark _)))) (fun _ _ _ _ _ => (pv 1))) pa_nil)))), ?_⟩
  rintro ds r _ ⟨seats, hz, rfl, rfl⟩
  show Run C E _ [.va (.tup (seats.map oD)), .un, .un] _
  have en : enumD (seats.map oD) = (List.range seats.length).map fun i => D.tup [nD i, oD (seats.getD i none)] := by
    unfold enumD
    rw [List.length_map]
    refine List.map_congr_left fun i hi => ?_
    have hi := List.mem_range.mp hi
    rw [List.getD_eq_getElem?_getD, List.getElem?_map, List.getD_eq_getElem?_getD, List.getElem?_eq_getElem hi] <;> rfl
  refine run_ret (ev_tupL (ev_lcP (List.range seats.length) (fun i => D.tup [nD i, oD (seats.getD i none)]) (fun k => (seats.getD k none).isNone) nD (fun i => [.va (.tup (seats.map oD)), .va (nD i), .va (oD (seats.getD i none))]) (en ▸ ei_enumT (ea_cons (ev_var rfl) ea_nil)) (by simp; omega) rfl (fun x _ => eg_tup (egs_name (egs_name egs_nil)) rfl) (fun x hx => EvT.is (et_test (ev_op (ev_var rfl) (ev_c fun _ => .non) opv_isN)) ?_) (fun x _ _ => (ev_var rfl)) (fun _ _ => rfl) (by simp))) rfl
  cases seats.getD x none <;> rfl
def r__law_others (ds : List D) (r : Option D) : Prop := ∃ (w : Web) (l : List Nat), w.Ok ∧ ds = [encW w, nT l] ∧ r = some (nT (othersIn w l))
theorem cal__law_others (T : Txt K mg C) (Dx : DefAt K mg "_law_others" s__law_others f fd)  : CalD P w K mg base 1 "_law_others" ["_law_net", "_law_heap"] (spD C 2 r__law_others) := by
  refine mkCal Dx sc__law_others bd__law_others (by decide) fun f cdv A outer s H E hr => have hu := hu_of hr; ⟨_, (pss_one (ps_ret (pe_callTy (crTup K) (by rfl) T.tuple (by decide +kernel) (pa_cons (pe_lc (own := [("_law_k", 2)]) rfl sc__law_others.nd (pi_range1 rfl T.range (pa_cons (pe_callB (crLen K) (by rfl) T.len PySem.boot_len (pa_cons (pe_ix (ixT K) (pv 0) pe_int (fun _ _ => rfl)) pa_nil)) pa_nil)) (blkOk_by rfl) (fun _ _ _ _ _ => (pg_name (i := 2) sc__law_others.nd rfl (Or.inl rfl))) (fun _ _ _ _ _ => (pts_one (pt_cmpR (opNi K) (pv 2) (pv 1) rfl))) (fun _ _ _ _ _ => (pv 2))) pa_nil)))), ?_⟩
  rintro ds r _ ⟨w, l, hw, rfl, rfl⟩
  show Run C E _ [.va (encW w), .va (nT l), .un] _
  refine run_ret (ev_tupL (ev_lcP (List.range w.gs.length) nD (fun g => !decide (g ∈ l)) nD (fun g => [.va (encW w), .va (nT l), .va (nD g)]) (ei_range1 (ea_cons (ev_lenG rfl) ea_nil) (by have := hw.few; omega)) (by have := hw.few; simp; omega) rfl (fun x _ => eg_name 2) (fun x hx => ?_) (fun x _ _ => (ev_var rfl)) (fun _ _ => rfl) (by simp))) rfl
  exact et_test (ev_op (ev_var rfl) (ev_var rfl) opv_ni_nT)
def r__law_in_part (ds : List D) (r : Option D) : Prop := ∃ (w : Web) (l p : List Nat), (∀ g ∈ l, g < w.gs.length) ∧ l.length ≤ 100 ∧ ds = [encW w, nT l, nT p] ∧ r = some (nT (guestsIn w l p))
theorem cal__law_in_part (T : Txt K mg C) (Dx : DefAt K mg "_law_in_part" s__law_in_part f fd)  : CalD P w K mg base 1 "_law_in_part" ["_law_net", "_law_heap", "_law_part_so"] (spD C 3 r__law_in_part) := by
  refine mkCal Dx sc__law_in_part bd__law_in_part (by decide) fun f cdv A outer s H E hr => have hu := hu_of hr; ⟨_, (pss_one (ps_ret (pe_callTy (crTup K) (by rfl) T.tuple (by decide +kernel) (pa_cons (pe_lc (own := [("_law_k", 3)]) rfl sc__law_in_part.nd (piT K (pv 1)) (blkOk_by rfl) (fun _ _ _ _ _ => (pg_name (i := 3) sc__law_in_part.nd rfl (Or.inl rfl))) (fun _ _ _ _ _ => (pts_one (pt_cmpR (opIn K) (pe_ix (ixT K) (pe_ix (ixT K) (pe_ix (ixT K) (pv 0) pe_int (fun _ _ => rfl)) (pv 3) (fun _ _ => rfl)) pe_int (fun _ _ => rfl)) (pv 2) rfl))) (fun _ _ _ _ _ => (pv 3))) pa_nil)))), ?_⟩
  rintro ds r _ ⟨w, l, p, hl, hz, rfl, rfl⟩
  show Run C E _ [.va (encW w), .va (nT l), .va (nT p), .un] _
  refine run_ret (ev_tupL (ev_lcP l nD (fun g => decide ((w.g g).1 ∈ p)) nD (fun g => [.va (encW w), .va (nT l), .va (nT p), .va (nD g)]) (ei_tup (ev_var rfl)) (by omega) rfl (fun x _ => eg_name 3) (fun x hx => ?_) (fun x _ _ => (ev_var rfl)) (fun _ _ => rfl) (by simp))) rfl
  exact et_test (ev_op (ev_wg0 rfl (ev_var rfl) (hl x hx)) (ev_var rfl) opv_in_nT)

theorem mark_len (w : Web) : ∀ (heap m : List Nat), (heap.foldl (markStep w) m).length = m.length
  | [], m => rfl
  | k :: heap, m => by rw [List.foldl_cons, mark_len w heap]; unfold markStep; rw [List.length_map]
theorem at_nats {l : List Nat} {i : Nat} (h : i < l.length) : atI (l.map nD) (i : Int) = some (nD (l.getD i 0)) := by
  refine atI_nat ?_
  rw [List.getElem?_map, List.getElem?_eq_getElem h, List.getD_eq_getElem?_getD, List.getElem?_eq_getElem h] <;> rfl
theorem kinds_len (m : List Nat) : (lawKinds m).length ≤ m.length := by
  have key : ∀ (m l : List Nat), (m.foldl put l).length ≤ l.length + m.length := by
    intro m
    induction m with
    | nil => intro l; simp
    | cons a m ih => intro l; rw [List.foldl_cons, List.length_cons]; have := ih (put l a); have := put_length l a; omega
  have := key m []
  unfold lawKinds
  simpa using this

def r__law_parts (ds : List D) (r : Option D) : Prop := ∃ (w : Web) (heap : List Nat), w.Ok ∧ (∀ g ∈ heap, g < w.gs.length) ∧ heap.length ≤ 100 ∧ (∀ p ∈ lawRaw w heap, p ≠ []) ∧ ds = [encW w, nT heap] ∧ r = some (.lst ((lawParts w heap).map nT))
theorem cal__law_parts (T : Txt K mg C) (Dx : DefAt K mg "_law_parts" s__law_parts f fd)  : CalD P w K mg base 1 "_law_parts" ["_law_net", "_law_heap"] (spD C 2 r__law_parts) := by
  refine mkCal Dx sc__law_parts bd__law_parts (by decide) fun f cdv A outer s H E hr => have hu := hu_of hr; ⟨_, (pss_cons (ps_set (i := 2) sc__law_parts.nd rfl (Or.inr rfl) (pe_listRg rfl (by rfl) T.list (prg_1 (by rfl) T.range (pe_ix (ixT K) (pv 0) pe_int (fun _ _ => rfl)))))
      (pss_cons (ps_for PassesOwn.never rfl (piT K (pv 1)) (pg_name (i := 3) sc__law_parts.nd rfl (Or.inl rfl)) (pss_cons (ps_asg (pe_tup (pa_cons (pe_ix (ixL K) (pv 2) (pe_ix (ixT K) (pe_ix (ixT K) (pe_ix (ixT K) (pv 0) pe_int (fun _ _ => rfl)) (pv 3) (fun _ _ => rfl)) pe_int (fun _ _ => rfl)) (fun _ _ => rfl)) (pa_cons (pe_ix (ixL K) (pv 2) (pe_ix (ixT K) (pe_ix (ixT K) (pe_ix (ixT K) (pv 0) pe_int (fun _ _ => rfl)) (pv 3) (fun _ _ => rfl)) pe_int (fun _ _ => rfl)) (fun _ _ => rfl)) pa_nil))) (pgT K (n := 2) (pgs_cons (pg_name (i := 4) sc__law_parts.nd rfl (Or.inr rfl)) (pgs_cons (pg_name (i := 5) sc__law_parts.nd rfl (Or.inr rfl)) pgs_nil))))
      (pss_one (ps_set (i := 2) sc__law_parts.nd rfl (Or.inr rfl) (pe_lc (own := [("_law_own", 6)]) rfl sc__law_parts.nd (piL K (pv 2)) (blkOk_by rfl) (fun _ _ _ _ _ => (pg_name (i := 6) sc__law_parts.nd rfl (Or.inl rfl))) (fun _ _ _ _ _ => pts_nil) (fun _ _ _ _ _ => (pe_ifExp (pt_cmpR op_eq (pv 6) (pv 5) (nomark _)) (pv 4) (pv 6))))))))
      (pss_cons (ps_set (i := 7) sc__law_parts.nd rfl (Or.inl rfl) (pe_lst pa_nil))
      (pss_cons (ps_for PassesOwn.never rfl (piL K (pv 2)) (pg_name (i := 6) sc__law_parts.nd rfl (Or.inl rfl)) (pss_one (ps_if (pt_cmpR (opNi K) (pv 6) (pv 7) rfl) (pss_one (ps_expr (bmL K PySem.F.slot_list_append PySem.F.type_list_append mt_append (pv 7) (pa_cons (pv 6) pa_nil)))) pss_nil)))
      (pss_one (ps_ret (pe_callB (crSortT K hr) (by rfl) T.sorted (by decide +kernel) (pa_cons (pe_lc (own := [("_law_own", 6)]) rfl sc__law_parts.nd (piL K (pv 7)) (blkOk_by rfl) (fun _ _ _ _ _ => (pg_name (i := 6) sc__law_parts.nd rfl (Or.inr rfl))) (fun _ _ _ _ _ => pts_nil) (fun _ _ _ _ _ => (pe_callTy (crTup K) (by rfl) T.tuple (by decide +kernel) (pa_cons (pe_lc (own := [("_law_spot", 8)]) rfl sc__law_parts.nd (pi_range1 rfl T.range (pa_cons (pe_ix (ixT K) (pv 0) pe_int (fun _ _ => rfl)) pa_nil)) (blkOk_by rfl) (fun _ _ _ _ _ => (pg_name (i := 8) sc__law_parts.nd rfl (Or.inl rfl))) (fun _ _ _ _ _ => (pts_one (pt_cmpR op_eq (pe_ix (ixL K) (pv 2) (pv 8) (fun _ _ => rfl)) (pv 6) (nomark _)))) (fun _ _ _ _ _ => (pv 8))) pa_nil)))) pa_nil)))))))), ?_⟩
  rintro ds r _ ⟨w, heap, hw, hl, hz, hne, rfl, rfl⟩
  show Run C E _ [.va (encW w), .va (nT heap), .un, .un, .un, .un, .un, .un, .un] _
  have hs := hw.small
  refine run_seq1 (run_set (EvD.fz (ev_lstRg (ev_w0 rfl) (by omega))) rfl) ?_
  refine run_seq (fun ρ => ∃ u3 u4 u5, ρ = [.va (encW w), .va (nT heap), .va (nL (lawMarks w heap)), u3, u4, u5, .un, .un, .un])
    (run_forF heap nD (markStep w) (List.range w.many) (fun m ρ => m.length = w.many ∧ ∃ u3 u4 u5, ρ = [.va (encW w), .va (nT heap), .va (nL m), u3, u4, u5, .un, .un, .un]) (ei_tup (ev_var rfl)) ⟨by simp, .un, .un, .un, rfl⟩ ?_ fun ρ2 h => h.2) ?_
  · rintro m k _ hk ⟨hm, u3, u4, u5, rfl⟩
    have hkl := hl k hk
    have hgo := g_ok hw hkl
    refine ⟨_, _, eg_name 3, ?_⟩
    refine run_seq1 (run_asg (ev_tup (xs := [nD (m.getD (w.g k).1 0), nD (m.getD (w.g k).2 0)]) (ea_cons (ev_ixL (ev_var rfl) (ev_wg0 rfl (ev_var rfl) hkl) (at_nats (by omega))) (ea_cons (ev_ixL (ev_var rfl) (ev_wg1 rfl (ev_var rfl) hkl) (at_nats (by omega))) ea_nil)) (by simp)) (eg_tup (egs_name (egs_name egs_nil)) rfl) rfl) ?_
    refine run_set (ρ1 := [.va (encW w), .va (nT heap), .va (nL m), .va (nD k), .va (nD (m.getD (w.g k).1 0)), .va (nD (m.getD (w.g k).2 0)), .un, .un, .un]) (EvD.is (EvD.fz (ev_lcM m nD (fun o => nD (if o = m.getD (w.g k).2 0 then m.getD (w.g k).1 0 else o)) (fun o => [.va (encW w), .va (nT heap), .va (nL m), .va (nD k), .va (nD (m.getD (w.g k).1 0)), .va (nD (m.getD (w.g k).2 0)), .va (nD o), .un, .un]) (ei_list (ev_var rfl)) (by omega) rfl (fun x _ => eg_name 6) (fun x hx => ?_) (fun _ _ => rfl) (by simp))) (d' := nL (markStep w m k)) (by unfold markStep; simp only [nL, List.map_map]; rfl)) ⟨by unfold markStep; rw [List.length_map]; exact hm, .va (nD k), .va (nD (m.getD (w.g k).1 0)), .va (nD (m.getD (w.g k).2 0)), rfl⟩
    refine ev_if (b := decide (x = m.getD (w.g k).2 0)) (EvT.is (et_test (ev_op (ev_var rfl) (ev_var rfl) opv_eqI)) (decide_eq_decide.mpr (by omega))) (fun hb => ?_) fun hb => ?_
    · rw [if_pos (of_decide_eq_true hb)]; exact (ev_var rfl)
    · rw [if_neg (of_decide_eq_false hb)]; exact (ev_var rfl)
  · rintro _ ⟨u3, u4, u5, rfl⟩
    have hm : (lawMarks w heap).length = w.many := by unfold lawMarks; rw [mark_len, List.length_range]
    have hk := kinds_len (lawMarks w heap)
    refine run_seq1 (run_set (ev_lst (xs := []) ea_nil (by simp)) rfl) ?_
    refine run_seq (fun ρ => ∃ u6, ρ = [.va (encW w), .va (nT heap), .va (nL (lawMarks w heap)), u3, u4, u5, u6, .ow (nL (lawKinds (lawMarks w heap))), .un])
      (run_forP (lawMarks w heap) nD (fun pre ρ => ∃ u6, ρ = [.va (encW w), .va (nT heap), .va (nL (lawMarks w heap)), u3, u4, u5, u6, .ow (nL (lawKinds pre)), .un]) (ei_list (ev_var rfl)) ⟨.un, rfl⟩ ?_ fun _ h => h) ?_
    · rintro pre x post _ e ⟨u6, rfl⟩
      have hpl : pre.length ≤ 100 := by have := congrArg List.length e; simp at this; omega
      have hkl := kinds_len pre
      have ek : lawKinds (pre ++ [x]) = put (lawKinds pre) x := by unfold lawKinds; rw [List.foldl_append] <;> rfl
      rw [ek]
      refine ⟨_, _, eg_name 6, ?_⟩
      refine run_if (EvT.bor (et_test (ev_op (ev_var rfl) (ev_var rfl) opv_ni_nL))) (fun hb => ?_) fun hb => run_next ⟨.va (nD x), ?_⟩
      · have hn : ¬ x ∈ lawKinds pre := by simpa using hb
        refine run_drop (ev_append rfl (ev_var rfl) rfl (by rw [List.length_map]; omega)) ⟨.va (nD x), ?_⟩
        have : put (lawKinds pre) x = lawKinds pre ++ [x] := if_neg hn
        rw [this]; simp only [nL, List.map_append]; rfl
      · have hn : x ∈ lawKinds pre := by simpa using hb
        have : put (lawKinds pre) x = lawKinds pre := if_pos hn
        rw [this] <;> rfl
    · rintro _ ⟨u6, rfl⟩
      refine run_ret (EvD.fz (EvD.frz (i := 7) rfl (ev_callO (xs := [.lst ((lawRaw w heap).map nT)]) (ea_cons (EvD.is (EvD.fz (ev_lcM (lawKinds (lawMarks w heap)) nD (fun o => nT ((List.range w.many).filter fun p => decide ((lawMarks w heap).getD p 0 = o))) (fun o => [.va (encW w), .va (nT heap), .va (nL (lawMarks w heap)), u3, u4, u5, .va (nD o), .va (nL (lawKinds (lawMarks w heap))), .un]) (ei_list (ev_var rfl)) (by omega) rfl (fun x _ => eg_name 6) (fun x hx => ?_) (fun _ _ => rfl) (by simp))) (by unfold lawRaw; simp only [List.map_map]; rfl)) ea_nil) (co_sortT hne)))) rfl
      refine ev_tupL (ev_lcP (List.range w.many) nD (fun p => decide ((lawMarks w heap).getD p 0 = x)) nD (fun p => [.va (encW w), .va (nT heap), .va (nL (lawMarks w heap)), u3, u4, u5, .va (nD x), .va (nL (lawKinds (lawMarks w heap))), .va (nD p)]) (ei_range1 (ea_cons (ev_w0 rfl) ea_nil) (by omega)) (by simp; omega) rfl (fun x _ => eg_name 8) (fun p hp => EvT.is (et_test (ev_op (ev_ixL (ev_var rfl) (ev_var rfl) (at_nats (by rw [hm]; exact List.mem_range.mp hp))) (ev_var rfl) opv_eqI)) (decide_eq_decide.mpr (by omega))) (fun x _ _ => (ev_var rfl)) (fun _ _ => rfl) (by simp))

def kindD (m : Int) : D := if m < 0 then .str "tree" else if m = 0 then .str "full" else .str "crowded"

def r__law_part_kind (ds : List D) (r : Option D) : Prop := ∃ (w : Web) (l p : List Nat), (∀ g ∈ l, g < w.gs.length) ∧ l.length ≤ 100 ∧ ds = [encW w, nT l, nT p] ∧ r = some (kindD (lawMore w l p))
theorem cal__law_part_kind (T : Txt K mg C) (Dx : DefAt K mg "_law_part_kind" s__law_part_kind f fd) (c__law_in_part : CalD P w K mg base 1 "_law_in_part" ["_law_net", "_law_heap", "_law_part_so"] (spD C 3 r__law_in_part)) : CalD P w K mg base 2 "_law_part_kind" ["_law_net", "_law_heap", "_law_part_so"] (spD C 3 r__law_part_kind) := by
  refine mkCal Dx sc__law_part_kind bd__law_part_kind (by decide) fun f cdv A outer s H E hr => have hu := hu_of hr; ⟨_, (pss_cons (ps_set (i := 3) sc__law_part_kind.nd rfl (Or.inl rfl) (pe_op op_sub (pe_callB (crLen K) (by rfl) T.len PySem.boot_len (pa_cons (pe_d c__law_in_part hr (by decide) (by rfl) (pa_cons (pv 0) (pa_cons (pv 1) (pa_cons (pv 2) pa_nil)))) pa_nil)) (pe_callB (crLen K) (by rfl) T.len PySem.boot_len (pa_cons (pv 2) pa_nil))))
      (pss_one (ps_ret (pe_ifExp (pt_cmpR op_lt (pv 3) pe_int (nomark _)) pe_str (pe_ifExp (pt_cmpR op_eq (pv 3) pe_int (nomark _)) pe_str pe_str))))), ?_⟩
  rintro ds r _ ⟨w, l, p, hl, hz, rfl, rfl⟩
  show Run C E _ [.va (encW w), .va (nT l), .va (nT p), .un] _
  refine run_seq1 (run_set (EvD.is (ev_op (ev_lenT (ev_callD (ds := [_, _, _]) (ea_cons (ev_var rfl) (ea_cons (ev_var rfl) (ea_cons (ev_var rfl) ea_nil))) ⟨w, l, p, hl, hz, rfl, rfl⟩ rfl)) (ev_lenT (ev_var rfl)) opv_int) (d' := .int (lawMore w l p)) (by unfold lawMore; rw [List.length_map, List.length_map])) rfl) ?_
  generalize lawMore w l p = m
  unfold kindD
  refine run_ret (ρ1 := [.va (encW w), .va (nT l), .va (nT p), .va (.int m)]) (ev_if (b := decide (m < 0)) (et_test (ev_op (ev_var rfl) (ev_c fun _ => .int _) opv_bl)) (r := .va (if m < 0 then .str "tree" else if m = 0 then .str "full" else .str "crowded")) (fun hb => ?_) fun hb => ?_) rfl
  · rw [if_pos (of_decide_eq_true hb)]; exact (ev_c fun _ => .str _)
  · rw [if_neg (of_decide_eq_false hb)]
    refine ev_if (b := decide (m = 0)) (et_test (ev_op (ev_var rfl) (ev_c fun _ => .int _) opv_eqI)) (fun hb => ?_) fun hb => ?_
    · rw [if_pos (of_decide_eq_true hb)]; exact (ev_c fun _ => .str _)
    · rw [if_neg (of_decide_eq_false hb)]; exact (ev_c fun _ => .str _)
def r__law_free_in (ds : List D) (r : Option D) : Prop := ∃ (w : Web) (l p : List Nat), w.Ok ∧ (∀ g ∈ l, g < w.gs.length) ∧ l.length ≤ 100 ∧ p.length ≤ 100 ∧ ds = [encW w, nT l, nT p] ∧ r = some (nL (lawFreeIn w l p))
theorem cal__law_free_in (T : Txt K mg C) (Dx : DefAt K mg "_law_free_in" s__law_free_in f fd) (c__law_unwanted : CalD P w K mg base 1 "_law_unwanted" ["_law_net"] (spD C 1 r__law_unwanted)) : CalD P w K mg base 2 "_law_free_in" ["_law_net", "_law_heap", "_law_part_so"] (spD C 3 r__law_free_in) := by
  refine mkCal Dx sc__law_free_in bd__law_free_in (by decide) fun f cdv A outer s H E hr => have hu := hu_of hr; ⟨_, (pss_cons (ps_par (i := 3) (j := 4) rfl sc__law_free_in.nd rfl rfl (by decide) rfl rfl (pa_cons (pe_lst pa_nil) (pa_cons (pe_d c__law_unwanted hr (by decide) (by rfl) (pa_cons (pv 0) pa_nil)) pa_nil)) (by rfl))
      (pss_cons (ps_for PassesOwn.never rfl (piT K (pv 2)) (pg_name (i := 5) sc__law_free_in.nd rfl (Or.inr rfl)) (pss_one (ps_if (PW.pt (pw_and (pt_cmpR (opIn K) (pv 5) (pv 4) rfl) (pw_and1 (pt_cmpR (opEqD K hr) (pe_lc (own := [("_law_k", 6)]) rfl sc__law_free_in.nd (piT K (pv 1)) (blkOk_by rfl) (fun _ _ _ _ _ => (pg_name (i := 6) sc__law_free_in.nd rfl (Or.inl rfl))) (fun _ _ _ _ _ => (pts_one (pt_cmpR (opIn K) (pv 5) (pe_ix (ixT K) (pe_ix (ixT K) (pv 0) pe_int (fun _ _ => rfl)) (pv 6) (fun _ _ => rfl)) rfl))) (fun _ _ _ _ _ => (pv 6))) (pe_lst pa_nil) (nomark _))))) (pss_one (ps_expr (bmL K PySem.F.slot_list_append PySem.F.type_list_append mt_append (pv 3) (pa_cons (pv 5) pa_nil)))) pss_nil)))
      (pss_one (ps_ret (pv 3))))), ?_⟩
  rintro ds r _ ⟨w, l, p, hw, hl, hz, hp, rfl, rfl⟩
  show Run C E _ [.va (encW w), .va (nT l), .va (nT p), .un, .un, .un, .un] _
  refine run_seq1 (run_par (ea_cons (ev_lst (xs := []) ea_nil (by simp)) (ea_cons (ev_callD (ds := [_]) (ea_cons (ev_var rfl) ea_nil) ⟨w, hw, rfl, rfl⟩ rfl) ea_nil)) rfl (by decide)) ?_
  unfold lawFreeIn
  generalize hq : (fun p => decide (p ∈ unwantedIn w) && (l.filter fun k => decide (p ∈ [(w.g k).1, (w.g k).2])).isEmpty) = q
  refine run_seq (fun ρ => ∃ u5 u6, ρ = [.va (encW w), .va (nT l), .va (nT p), .ow (nL (p.filter q)), .va (nL (unwantedIn w)), u5, u6])
    (run_forP p nD (fun pre ρ => ∃ u5, ρ = [.va (encW w), .va (nT l), .va (nT p), .ow (nL (pre.filter q)), .va (nL (unwantedIn w)), u5, .un]) (ei_tup (ev_var rfl)) ⟨.un, rfl⟩ ?_ fun _ ⟨u5, h⟩ => ⟨u5, _, h⟩) ?_
  · rintro pre x post _ e ⟨u5, rfl⟩
    have hpl : pre.length ≤ 100 := by have := congrArg List.length e; simp at this; omega
    have hfl := List.length_filter_le q pre
    refine ⟨_, _, eg_name 5, run_if (ρ1 := [.va (encW w), .va (nT l), .va (nT p), .ow (nL (pre.filter q)), .va (nL (unwantedIn w)), .va (nD x), .un]) (b := q x) ?_ (fun hb => ?_) fun hb => run_next ⟨.va (nD x), ?_⟩⟩
    · refine EvT.is ?_ (show (decide (x ∈ unwantedIn w) && (l.filter fun k => decide (x ∈ [(w.g k).1, (w.g k).2])).isEmpty) = q x by rw [← hq])
      refine et_and (et_test (ev_op (ev_var rfl) (ev_var rfl) opv_in_nL)) fun _ => EvT.is (et_test (ev_op (EvD.fz (ev_lcP l nD (fun k => decide (x ∈ [(w.g k).1, (w.g k).2])) nD (fun k => [.va (encW w), .va (nT l), .va (nT p), .ow (nL (pre.filter q)), .va (nL (unwantedIn w)), .va (nD x), .va (nD k)]) (ei_tup (ev_var rfl)) (by omega) rfl (fun x _ => eg_name 6) (fun k hk => et_test (ev_op (ev_var rfl) (ev_wg rfl (ev_var rfl) (hl k hk)) (opv_in_nT (l := [(w.g k).1, (w.g k).2])))) (fun x _ _ => (ev_var rfl)) (fun _ _ => rfl) (by simp))) (EvD.fz (ev_lst (xs := []) ea_nil (by simp))) (opv_eq_nil (eqOk_nL _)))) ?_
      cases l.filter fun k => decide (x ∈ [(w.g k).1, (w.g k).2]) <;> rfl
    · refine run_drop (ev_append rfl (ev_var rfl) rfl (by rw [List.length_map]; omega)) ⟨.va (nD x), ?_⟩
      have : (pre ++ [x]).filter q = pre.filter q ++ [x] := by rw [List.filter_append]; simp [hb]
      rw [this]; simp only [nL, List.map_append]; rfl
    · have : (pre ++ [x]).filter q = pre.filter q := by rw [List.filter_append]; simp [hb]
      rw [this] <;> rfl
  · rintro _ ⟨u5, u6, rfl⟩
    exact run_ret (EvD.frz (i := 3) rfl (ev_var rfl)) rfl

/-- what the law asks of a web's parts -/
structure PartsOk (w : Web) (o : List Nat) : Prop where
  ne : ∀ p ∈ lawRaw w o, p ≠ []
  len : (lawParts w o).length ≤ 100
  size : ∀ p ∈ lawParts w o, p.length ≤ 100
theorem kind_crowded (m : Int) : OpV rEq (kindD m) (.str "crowded") (.bl (decide (0 < m))) := by
  unfold kindD
  by_cases h : m < 0
  · rw [if_pos h]
    have : decide (0 < m) = (("tree" : Str) == ("crowded" : Str)) := by rw [show (("tree" : Str) == ("crowded" : Str)) = false by decide]; exact decide_eq_false (by omega)
    rw [this]; exact opv_eqS
  · rw [if_neg h]
    by_cases h0 : m = 0
    · rw [if_pos h0]
      have : decide (0 < m) = (("full" : Str) == ("crowded" : Str)) := by rw [show (("full" : Str) == ("crowded" : Str)) = false by decide]; exact decide_eq_false (by omega)
      rw [this]; exact opv_eqS
    · rw [if_neg h0]
      have : decide (0 < m) = (("crowded" : Str) == ("crowded" : Str)) := by rw [show (("crowded" : Str) == ("crowded" : Str)) = true by decide]; exact decide_eq_true (by omega)
      rw [this]; exact opv_eqS
theorem kind_tree (m : Int) : OpV rEq (kindD m) (.str "tree") (.bl (decide (m < 0))) := by
  unfold kindD
  by_cases h : m < 0
  · rw [if_pos h]
    have : decide (m < 0) = (("tree" : Str) == ("tree" : Str)) := by rw [show (("tree" : Str) == ("tree" : Str)) = true by decide]; exact decide_eq_true (by omega)
    rw [this]; exact opv_eqS
  · rw [if_neg h]
    by_cases h0 : m = 0
    · rw [if_pos h0]
      have : decide (m < 0) = (("full" : Str) == ("tree" : Str)) := by rw [show (("full" : Str) == ("tree" : Str)) = false by decide]; exact decide_eq_false (by omega)
      rw [this]; exact opv_eqS
    · rw [if_neg h0]
      have : decide (m < 0) = (("crowded" : Str) == ("tree" : Str)) := by rw [show (("crowded" : Str) == ("tree" : Str)) = false by decide]; exact decide_eq_false (by omega)
      rw [this]; exact opv_eqS
theorem isEmpty_nL (l : List Nat) : (l.map nD).isEmpty = l.isEmpty := by cases l <;> rfl

def r__law_bars (ds : List D) (r : Option D) : Prop := ∃ (w : Web) (l : List Nat), w.Ok ∧ (∀ g ∈ l, g < w.gs.length) ∧ l.length ≤ 100 ∧ PartsOk w (othersIn w l) ∧ ds = [encW w, nT l] ∧ r = some (.lst ((lawBars w l).map nT))
theorem cal__law_bars (T : Txt K mg C) (Dx : DefAt K mg "_law_bars" s__law_bars f fd) (c__law_free_in : CalD P w K mg base 2 "_law_free_in" ["_law_net", "_law_heap", "_law_part_so"] (spD C 3 r__law_free_in)) (c__law_others : CalD P w K mg base 1 "_law_others" ["_law_net", "_law_heap"] (spD C 2 r__law_others)) (c__law_part_kind : CalD P w K mg base 2 "_law_part_kind" ["_law_net", "_law_heap", "_law_part_so"] (spD C 3 r__law_part_kind)) (c__law_parts : CalD P w K mg base 1 "_law_parts" ["_law_net", "_law_heap"] (spD C 2 r__law_parts)) : CalD P w K mg base 3 "_law_bars" ["_law_net", "_law_heap"] (spD C 2 r__law_bars) := by
  refine mkCal Dx sc__law_bars bd__law_bars (by decide) fun f cdv A outer s H E hr => have hu := hu_of hr; ⟨_, (pss_cons (ps_par (i := 2) (j := 3) rfl sc__law_bars.nd rfl rfl (by decide) rfl rfl (pa_cons (pe_d c__law_others hr (by decide) (by rfl) (pa_cons (pv 0) (pa_cons (pv 1) pa_nil))) (pa_cons (pe_lst pa_nil) pa_nil)) (by rfl))
      (pss_cons (ps_for PassesOwn.never rfl (piL K (pe_d c__law_parts hr (by decide) (by rfl) (pa_cons (pv 0) (pa_cons (pv 2) pa_nil)))) (pg_name (i := 4) sc__law_bars.nd rfl (Or.inl rfl)) (pss_cons (ps_set (i := 5) sc__law_bars.nd rfl (Or.inl rfl) (pe_d c__law_part_kind hr (by decide) (by rfl) (pa_cons (pv 0) (pa_cons (pv 2) (pa_cons (pv 4) pa_nil)))))
      (pss_one (ps_if (PW.pt (pw_or (pt_cmpR op_eq (pv 5) pe_str (nomark _)) (pw_or1 (PW.pt (pw_and (pt_cmpR op_eq (pv 5) pe_str (nomark _)) (pw_and1 (pt_cmpR (opEqD K hr) (pe_d c__law_free_in hr (by decide) (by rfl) (pa_cons (pv 0) (pa_cons (pv 1) (pa_cons (pv 4) pa_nil)))) (pe_lst pa_nil) (nomark _)))))))) (pss_one (ps_expr (bmL K PySem.F.slot_list_append PySem.F.type_list_append mt_append (pv 3) (pa_cons (pv 4) pa_nil)))) pss_nil))))
      (pss_one (ps_ret (pv 3))))), ?_⟩
  rintro ds r _ ⟨w, l, hw, hl, hz, po, rfl, rfl⟩
  show Run C E _ [.va (encW w), .va (nT l), .un, .un, .un, .un] _
  have oz := others_len hw (l := l)
  refine run_seq1 (run_par (ea_cons (ev_callD (ds := [_, _]) (ea_cons (ev_var rfl) (ea_cons (ev_var rfl) ea_nil)) ⟨w, l, hw, rfl, rfl⟩ rfl) (ea_cons (ev_lst (xs := []) ea_nil (by simp)) ea_nil)) rfl (by decide)) ?_
  have pl := po.len
  refine run_seq (fun ρ => ∃ u4 u5, ρ = [.va (encW w), .va (nT l), .va (nT (othersIn w l)), .ow (.lst ((lawBars w l).map nT)), u4, u5])
    (run_forP (lawParts w (othersIn w l)) nT (fun pre ρ => ∃ u4 u5, ρ = [.va (encW w), .va (nT l), .va (nT (othersIn w l)), .ow (.lst ((pre.filter (isBars w l)).map nT)), u4, u5])
      (EvI.hide (d := .lst []) 3 rfl rfl (ei_list (ev_callD (ds := [_, _]) (ea_cons (ev_var rfl) (ea_cons (ev_var rfl) ea_nil)) ⟨w, _, hw, others_lt, oz, po.ne, rfl, rfl⟩ rfl))) ⟨.un, .un, rfl⟩ ?_ fun _ h => h) ?_
  · rintro pre part post _ e ⟨u4, u5, rfl⟩
    have hm : part ∈ lawParts w (othersIn w l) := by rw [e]; simp
    have hpl : pre.length ≤ 100 := by have := congrArg List.length e; simp at this; omega
    have hfl := List.length_filter_le (isBars w l) pre
    refine ⟨_, _, eg_name 4, ?_⟩
    refine run_seq1 (run_set (EvD.hide (d := .lst ((pre.filter (isBars w l)).map nT)) 3 rfl rfl (ev_callD (ds := [_, _, _]) (ea_cons (ev_var rfl) (ea_cons (ev_var rfl) (ea_cons (ev_var rfl) ea_nil))) ⟨w, _, part, others_lt, oz, rfl, rfl⟩ rfl)) rfl) ?_
    refine run_if (ρ1 := [.va (encW w), .va (nT l), .va (nT (othersIn w l)), .ow (.lst ((pre.filter (isBars w l)).map nT)), .va (nT part), .va (kindD (lawMore w (othersIn w l) part))]) (b := isBars w l part) ?_ (fun hb => ?_) fun hb => run_next ⟨.va (nT part), .va (kindD (lawMore w (othersIn w l) part)), ?_⟩
    · refine et_or (et_test (ev_op (ev_var rfl) (ev_c fun _ => .str _) (kind_crowded _))) fun _ => et_and (et_test (ev_op (ev_var rfl) (ev_c fun _ => .str _) (kind_tree _))) fun _ => EvT.is (et_test (ev_op (EvD.hide (d := .lst ((pre.filter (isBars w l)).map nT)) 3 rfl rfl (ev_callD (ds := [_, _, _]) (ea_cons (ev_var rfl) (ea_cons (ev_var rfl) (ea_cons (ev_var rfl) ea_nil))) ⟨w, l, part, hw, hl, hz, po.size part hm, rfl, rfl⟩ rfl)) (EvD.fz (ev_lst (xs := []) ea_nil (by simp))) (opv_eq_nil (eqOk_nL _)))) (isEmpty_nL _)
    · refine run_drop (ev_append rfl (ev_var rfl) rfl (by rw [List.length_map]; omega)) ⟨.va (nT part), .va (kindD (lawMore w (othersIn w l) part)), ?_⟩
      have : (pre ++ [part]).filter (isBars w l) = pre.filter (isBars w l) ++ [part] := by rw [List.filter_append]; simp [hb]
      rw [this]; simp only [List.map_append]; rfl
    · have : (pre ++ [part]).filter (isBars w l) = pre.filter (isBars w l) := by rw [List.filter_append]; simp [hb]
      rw [this] <;> rfl
  · rintro _ ⟨u4, u5, rfl⟩
    exact run_ret (EvD.frz (i := 3) rfl (ev_var rfl)) rfl
def r__law_barred_by (ds : List D) (r : Option D) : Prop := ∃ (w : Web) (l : List Nat), w.Ok ∧ (∀ g ∈ l, g < w.gs.length) ∧ l.length ≤ 100 ∧ PartsOk w (othersIn w l) ∧ ds = [encW w, nT l] ∧ r = some (.lst ((lawBarredBy w l).map nT))
theorem cal__law_barred_by (T : Txt K mg C) (Dx : DefAt K mg "_law_barred_by" s__law_barred_by f fd) (c__law_free_in : CalD P w K mg base 2 "_law_free_in" ["_law_net", "_law_heap", "_law_part_so"] (spD C 3 r__law_free_in)) (c__law_others : CalD P w K mg base 1 "_law_others" ["_law_net", "_law_heap"] (spD C 2 r__law_others)) (c__law_part_kind : CalD P w K mg base 2 "_law_part_kind" ["_law_net", "_law_heap", "_law_part_so"] (spD C 3 r__law_part_kind)) (c__law_parts : CalD P w K mg base 1 "_law_parts" ["_law_net", "_law_heap"] (spD C 2 r__law_parts)) : CalD P w K mg base 3 "_law_barred_by" ["_law_net", "_law_heap"] (spD C 2 r__law_barred_by) := by
  refine mkCal Dx sc__law_barred_by bd__law_barred_by (by decide) fun f cdv A outer s H E hr => have hu := hu_of hr; ⟨_, (pss_cons (ps_par (i := 2) (j := 3) rfl sc__law_barred_by.nd rfl rfl (by decide) rfl rfl (pa_cons (pe_d c__law_others hr (by decide) (by rfl) (pa_cons (pv 0) (pa_cons (pv 1) pa_nil))) (pa_cons (pe_lst pa_nil) pa_nil)) (by rfl))
      (pss_cons (ps_for PassesOwn.never rfl (piL K (pe_d c__law_parts hr (by decide) (by rfl) (pa_cons (pv 0) (pa_cons (pv 2) pa_nil)))) (pg_name (i := 4) sc__law_barred_by.nd rfl (Or.inr rfl)) (pss_cons (ps_setLc (i := 5) rfl sc__law_barred_by.nd rfl rfl (sw_true rfl rfl rfl (by decide +kernel)) (own := [("_law_k", 6)]) (piT K (pv 1)) (blkOk_by rfl) (fun _ _ _ _ _ => (pg_name (i := 6) sc__law_barred_by.nd rfl (Or.inl rfl))) (fun _ _ _ _ _ => (pts_one (PW.pt (pw_or (pt_cmpR (opIn K) (pe_ix (ixT K) (pe_ix (ixT K) (pe_ix (ixT K) (pv 0) pe_int (fun _ _ => rfl)) (pv 6) (fun _ _ => rfl)) pe_int (fun _ _ => rfl)) (pv 4) rfl) (pw_or1 (pt_cmpR (opIn K) (pe_ix (ixT K) (pe_ix (ixT K) (pe_ix (ixT K) (pv 0) pe_int (fun _ _ => rfl)) (pv 6) (fun _ _ => rfl)) pe_int (fun _ _ => rfl)) (pv 4) rfl)))))) (fun _ _ _ _ _ => pe_int))
      (pss_one (ps_if (PW.pt (pw_and (pt_cmpR (opNeD K hr) (pv 5) (pe_lst pa_nil) (nomark _)) (pw_and (pt_cmpR op_eq (pe_d c__law_part_kind hr (by decide) (by rfl) (pa_cons (pv 0) (pa_cons (pv 2) (pa_cons (pv 4) pa_nil)))) pe_str (nomark _)) (pw_and1 (pt_cmpR (opEqD K hr) (pe_d c__law_free_in hr (by decide) (by rfl) (pa_cons (pv 0) (pa_cons (pv 1) (pa_cons (pv 4) pa_nil)))) (pe_lst pa_nil) (nomark _)))))) (pss_one (ps_expr (bmL K PySem.F.slot_list_append PySem.F.type_list_append mt_append (pv 3) (pa_cons (pv 4) pa_nil)))) pss_nil))))
      (pss_one (ps_ret (pv 3))))), ?_⟩
  rintro ds r _ ⟨w, l, hw, hl, hz, po, rfl, rfl⟩
  show Run C E _ [.va (encW w), .va (nT l), .un, .un, .un, .un, .un] _
  have oz := others_len hw (l := l)
  refine run_seq1 (run_par (ea_cons (ev_callD (ds := [_, _]) (ea_cons (ev_var rfl) (ea_cons (ev_var rfl) ea_nil)) ⟨w, l, hw, rfl, rfl⟩ rfl) (ea_cons (ev_lst (xs := []) ea_nil (by simp)) ea_nil)) rfl (by decide)) ?_
  have pl := po.len
  refine run_seq (fun ρ => ∃ u4 u5 u6, ρ = [.va (encW w), .va (nT l), .va (nT (othersIn w l)), .ow (.lst ((lawBarredBy w l).map nT)), u4, u5, u6])
    (run_forP (lawParts w (othersIn w l)) nT (fun pre ρ => ∃ u4 u5, ρ = [.va (encW w), .va (nT l), .va (nT (othersIn w l)), .ow (.lst ((pre.filter (isBarred w l)).map nT)), u4, u5, .un])
      (EvI.hide (d := .lst []) 3 rfl rfl (ei_list (ev_callD (ds := [_, _]) (ea_cons (ev_var rfl) (ea_cons (ev_var rfl) ea_nil)) ⟨w, _, hw, others_lt, oz, po.ne, rfl, rfl⟩ rfl))) ⟨.un, .un, rfl⟩ ?_ fun _ ⟨u4, u5, h⟩ => ⟨u4, u5, _, h⟩) ?_
  · rintro pre part post _ e ⟨u4, u5, rfl⟩
    have hm : part ∈ lawParts w (othersIn w l) := by rw [e]; simp
    have hpl : pre.length ≤ 100 := by have := congrArg List.length e; simp at this; omega
    have hfl := List.length_filter_le (isBarred w l) pre
    refine ⟨_, _, eg_name 4, ?_⟩
    refine run_seq1 (run_set (EvD.is (d' := .lst ((lawEnds w l part).map fun _ => .int 1)) (EvD.fz (ev_lcP l nD (fun k => decide ((w.g k).1 ∈ part) || decide ((w.g k).2 ∈ part)) (fun _ => .int 1) (fun k => [.va (encW w), .va (nT l), .va (nT (othersIn w l)), .ow (.lst ((pre.filter (isBarred w l)).map nT)), .va (nT part), u5, .va (nD k)]) (ei_tup (ev_var rfl)) (by omega) rfl (fun x _ => eg_name 6) (fun k hk => et_or (et_test (ev_op (ev_wg0 rfl (ev_var rfl) (hl k hk)) (ev_var rfl) opv_in_nT)) fun _ => et_test (ev_op (ev_wg1 rfl (ev_var rfl) (hl k hk)) (ev_var rfl) opv_in_nT)) (fun x _ _ => (ev_c fun _ => .int _)) (fun _ _ => rfl) (by simp))) rfl) rfl) ?_
    refine run_if (ρ1 := [.va (encW w), .va (nT l), .va (nT (othersIn w l)), .ow (.lst ((pre.filter (isBarred w l)).map nT)), .va (nT part), .va (.lst ((lawEnds w l part).map fun _ => .int 1)), .un]) (b := isBarred w l part) ?_ (fun hb => ?_) fun hb => run_next ⟨.va (nT part), .va (.lst ((lawEnds w l part).map fun _ => .int 1)), ?_⟩
    · have e1 : (.lst ((lawEnds w l part).map fun _ => D.int 1)) = nL ((lawEnds w l part).map fun _ => 1) := by simp only [nL, List.map_map]; rfl
      refine et_and (EvT.is (et_test (ev_op (ev_var rfl) (EvD.fz (ev_lst (xs := []) ea_nil (by simp))) (opv_ne_nil (by rw [e1]; exact eqOk_nL _)))) ?_) fun _ => et_and (et_test (ev_op (EvD.hide (d := .lst ((pre.filter (isBarred w l)).map nT)) 3 rfl rfl (ev_callD (ds := [_, _, _]) (ea_cons (ev_var rfl) (ea_cons (ev_var rfl) (ea_cons (ev_var rfl) ea_nil))) ⟨w, _, part, others_lt, oz, rfl, rfl⟩ rfl)) (ev_c fun _ => .str _) (kind_tree _))) fun _ => EvT.is (et_test (ev_op (EvD.hide (d := .lst ((pre.filter (isBarred w l)).map nT)) 3 rfl rfl (ev_callD (ds := [_, _, _]) (ea_cons (ev_var rfl) (ea_cons (ev_var rfl) (ea_cons (ev_var rfl) ea_nil))) ⟨w, l, part, hw, hl, hz, po.size part hm, rfl, rfl⟩ rfl)) (EvD.fz (ev_lst (xs := []) ea_nil (by simp))) (opv_eq_nil (eqOk_nL _)))) (isEmpty_nL _)
      cases lawEnds w l part <;> rfl
    · refine run_drop (ev_append rfl (ev_var rfl) rfl (by rw [List.length_map]; omega)) ⟨.va (nT part), .va (.lst ((lawEnds w l part).map fun _ => .int 1)), ?_⟩
      have : (pre ++ [part]).filter (isBarred w l) = pre.filter (isBarred w l) ++ [part] := by rw [List.filter_append]; simp [hb]
      rw [this]; simp only [List.map_append]; rfl
    · have : (pre ++ [part]).filter (isBarred w l) = pre.filter (isBarred w l) := by rw [List.filter_append]; simp [hb]
      rw [this] <;> rfl
  · rintro _ ⟨u4, u5, u6, rfl⟩
    exact run_ret (EvD.frz (i := 3) rfl (ev_var rfl)) rfl

def r__law_are_within (ds : List D) (r : Option D) : Prop := ∃ (l k : List Nat) (d e : D), (d = nT l ∨ d = nL l) ∧ (e = nT k ∨ e = nL k) ∧ l.length ≤ 10000 ∧ ds = [d, e] ∧ r = some (.bl (within l k))
theorem cal__law_are_within (T : Txt K mg C) (Dx : DefAt K mg "_law_are_within" s__law_are_within f fd) : CalD P w K mg base 1 "_law_are_within" ["_law_heap", "_law_wide_so"] (spD C 2 r__law_are_within) := by
  refine mkCalX Dx sc__law_are_within bd__law_are_within (by decide) fun f cdv A outer s H E hr ds r hn hrel => ?_
  have hu := hu_of hr
  obtain ⟨l, k, d, e, hd, he, hz, rfl, rfl⟩ := hrel
  have ht : ∀ x : Nat, EvT (tTest (tOp (rIn K true) (tVar 2) (tVar 1))) [.va d, .va e, .va (nD x)] [.va d, .va e, .va (nD x)] (!decide (x ∈ k)) := fun x => by
    rcases he with rfl | rfl
    · exact et_test (ev_op (ev_var rfl) (ev_var rfl) opv_ni_nT)
    · exact et_test (ev_op (ev_var rfl) (ev_var rfl) opv_ni_nL)
  have fin : ((l.filter fun x => !decide (x ∈ k)).map nD).isEmpty = within l k := by
    unfold within; cases l.filter fun x => !decide (x ∈ k) <;> rfl
  rcases hd with rfl | rfl
  · refine ⟨_, PSs.nox (pss_one (ps_ret (pe_cmpR (opEqD K hr) (pe_lc (own := [("_law_own", 2)]) rfl sc__law_are_within.nd (piT K (pv 0)) (blkOk_by rfl) (fun _ _ _ _ _ => (pg_name (i := 2) sc__law_are_within.nd rfl (Or.inl rfl))) (fun _ _ _ _ _ => (pts_one (pt_cmpR (opNi K) (pv 2) (pv 1) rfl))) (fun _ _ _ _ _ => (pv 2))) (pe_lst pa_nil) (nomark _)))), ?_⟩
    show Run C E _ [.va (nT l), .va e, .un] _
    exact run_ret (EvD.is (ev_op (EvD.fz (ev_lcP l nD (fun x => !decide (x ∈ k)) nD (fun x => [.va (nT l), .va e, .va (nD x)]) (ei_tup (ev_var rfl)) (by omega) rfl (fun x _ => eg_name 2) (fun x hx => ht x) (fun x _ _ => (ev_var rfl)) (fun _ _ => rfl) (by simp))) (EvD.fz (ev_lst (xs := []) ea_nil (by simp))) (opv_eq_nil (eqOk_nL _))) (congrArg D.bl fin)) rfl
  · refine ⟨_, PSs.nox (pss_one (ps_ret (pe_cmpR (opEqD K hr) (pe_lc (own := [("_law_own", 2)]) rfl sc__law_are_within.nd (piL K (pv 0)) (blkOk_by rfl) (fun _ _ _ _ _ => (pg_name (i := 2) sc__law_are_within.nd rfl (Or.inl rfl))) (fun _ _ _ _ _ => (pts_one (pt_cmpR (opNi K) (pv 2) (pv 1) rfl))) (fun _ _ _ _ _ => (pv 2))) (pe_lst pa_nil) (nomark _)))), ?_⟩
    show Run C E _ [.va (nL l), .va e, .un] _
    exact run_ret (EvD.is (ev_op (EvD.fz (ev_lcP l nD (fun x => !decide (x ∈ k)) nD (fun x => [.va (nL l), .va e, .va (nD x)]) (ei_list (ev_var rfl)) (by omega) rfl (fun x _ => eg_name 2) (fun x hx => ht x) (fun x _ _ => (ev_var rfl)) (fun _ _ => rfl) (by simp))) (EvD.fz (ev_lst (xs := []) ea_nil (by simp))) (opv_eq_nil (eqOk_nL _))) (congrArg D.bl fin)) rfl

end
end K17
end

section
set_option maxRecDepth 100000
set_option maxHeartbeats 4000000
namespace K17
open PySem PySem.Spec PyProof.Rows L2 DL MN
section
variable {P : Program} {w : World} {K : PySem.W.Frag} {mg : Str → Option Value} {base : Heap} {C : Addr} {f : Addr} {fd : FuncData}


/-! ### same -/
mutual
def fine : D → Bool
  | .lst ds => fines ds && decide (ds.length ≤ 1000)
  | .tup ds => fines ds && decide (ds.length ≤ 1000)
  | .int _ => true
  | .bl _ => true
  | .str x => PyData.strOk x
  | _ => false
def fines : List D → Bool
  | [] => true
  | d :: ds => fine d && fines ds
end
mutual
def depF : D → Nat
  | .lst ds => depFs ds + 1
  | .tup ds => depFs ds + 1
  | _ => 0
def depFs : List D → Nat
  | [] => 0
  | d :: ds => max (depF d) (depFs ds)
end
theorem depFs_mem {d : D} : ∀ {ds : List D}, d ∈ ds → depF d ≤ depFs ds
  | [], h => by cases h
  | e :: ds, h => by
    rw [depFs]
    rcases List.mem_cons.mp h with rfl | h
    · omega
    · have := depFs_mem h; omega
theorem fines_mem {d : D} : ∀ {ds : List D}, fines ds = true → d ∈ ds → fine d = true
  | [], _, h => by cases h
  | e :: ds, h, m => by
    rw [fines, Bool.and_eq_true] at h
    rcases List.mem_cons.mp m with rfl | m
    · exact h.1
    · exact fines_mem h.2 m
mutual
theorem fine_ok : ∀ d : D, fine d = true → noOb d = true ∧ PyData.canLay0 (toPy d) = true ∧ (toPy d).depth ≤ depF d
  | .lst ds, h => by
    rw [fine, Bool.and_eq_true] at h
    obtain ⟨a, b, c⟩ := fines_ok ds h.1
    exact ⟨by rw [noOb]; exact a, by rw [toPy, PyData.canLay0]; exact b, by rw [toPy, PyData.depth, depF]; omega⟩
  | .tup ds, h => by
    rw [fine, Bool.and_eq_true] at h
    obtain ⟨a, b, c⟩ := fines_ok ds h.1
    exact ⟨by rw [noOb]; exact a, by rw [toPy, PyData.canLay0]; exact b, by rw [toPy, PyData.depth, depF]; omega⟩
  | .int _, _ => ⟨rfl, by simp [toPy, PyData.canLay0], by simp [toPy, PyData.depth]⟩
  | .bl _, _ => ⟨rfl, by simp [toPy, PyData.canLay0], by simp [toPy, PyData.depth]⟩
  | .str _, h => ⟨rfl, by simpa [toPy, PyData.canLay0, fine] using h, by simp [toPy, PyData.depth]⟩
  | .non, h => by simp [fine] at h
  | .dic _ _, h => by simp [fine] at h
  | .ob _, h => by simp [fine] at h
  | .ty _, h => by simp [fine] at h
  | .scr _ _, h => by simp [fine] at h
theorem fines_ok : ∀ ds : List D, fines ds = true → noObs ds = true ∧ PyData.canLayAll0 (toPys ds) = true ∧ PyData.depthAll (toPys ds) ≤ depFs ds
  | [], _ => ⟨rfl, by simp [toPys, PyData.canLayAll0], by simp [toPys, PyData.depthAll]⟩
  | d :: ds, h => by
    rw [fines, Bool.and_eq_true] at h
    obtain ⟨a, b, c⟩ := fine_ok d h.1
    obtain ⟨a', b', c'⟩ := fines_ok ds h.2
    exact ⟨by rw [noObs, a, a'] <;> rfl, by rw [toPys, PyData.canLayAll0, b, b'] <;> rfl, by rw [toPys, PyData.depthAll, depFs]; omega⟩
end
theorem eqOk_fine {d : D} (h : fine d = true) (hd : depF d ≤ 20) : eqOk d = true := by
  obtain ⟨a, b, c⟩ := fine_ok d h
  unfold eqOk SeqAt.shaped
  rw [a, b, Bool.true_and, Bool.true_and]
  exact decide_eq_true (by omega)
def isLD : D → Bool
  | .lst _ => true
  | _ => false
def isTD : D → Bool
  | .tup _ => true
  | _ => false
def isBD : D → Bool
  | .bl _ => true
  | _ => false
def isID : D → Bool
  | .int _ => true
  | .bl _ => true
  | _ => false
theorem kit_L {d : D} (h : fine d = true) : kitB (tyN d) "list" = some (isLD d) := by
  cases d <;> first | exact k_list_list | exact k_tuple_list | exact k_int_list | exact k_bool_list | exact k_str_list | simp [fine] at h
theorem kit_T {d : D} (h : fine d = true) : kitB (tyN d) "tuple" = some (isTD d) := by
  cases d <;> first | exact k_list_tuple | exact k_tuple_tuple | exact k_int_tuple | exact k_bool_tuple | exact k_str_tuple | simp [fine] at h
theorem kit_B {d : D} (h : fine d = true) : kitB (tyN d) "bool" = some (isBD d) := by
  cases d <;> first | exact k_list_bool | exact k_tuple_bool | exact k_int_bool | exact k_bool_bool | exact k_str_bool | simp [fine] at h
theorem kit_I {d : D} (h : fine d = true) : kitB (tyN d) "int" = some (isID d) := by
  cases d <;> first | exact k_list_int | exact k_tuple_int | exact k_int_int | exact k_bool_int | exact k_str_int | simp [fine] at h
theorem fine_ty {d : D} (h : fine d = true) : hasTy d = true := by
  cases d <;> first | rfl | simp [fine] at h
mutual
/-- got, due -/
def sameD : D → D → Bool
  | got, .lst es => match got with
    | .lst gs => decide (gs.length = es.length) && sameDs gs es
    | _ => false
  | got, .tup es => match got with
    | .tup gs => decide (gs.length = es.length) && sameDs gs es
    | _ => false
  | .int j, .int i => decide (j = i)
  | .bl c, .bl b => c == b
  | .str y, .str x => y == x
  | _, _ => false
def sameDs : List D → List D → Bool
  | g :: gs, e :: es => sameD g e && sameDs gs es
  | _, _ => true
end
theorem sameDs_zip : ∀ gs es : List D, sameDs gs es = (gs.zip es).all fun p => sameD p.1 p.2
  | [], es => by cases es <;> simp [sameDs]
  | _ :: _, [] => by simp [sameDs]
  | g :: gs, e :: es => by rw [sameDs, sameDs_zip gs es, List.zip_cons_cons, List.all_cons]
def r__law_sameN (n : Nat) (ds : List D) (r : Option D) : Prop := ∃ got due : D, fine got = true ∧ fine due = true ∧ depF due < n ∧ depF got ≤ 20 ∧ depF due ≤ 20 ∧ ds = [got, due] ∧ r = some (.bl (sameD got due))
abbrev r__law_same := r__law_sameN 5
theorem cal__law_sameN (T : Txt K mg C) (Dx : DefAt K mg "_law_same" s__law_same f fd) : ∀ n : Nat, CalD P w K mg base (n + 1) "_law_same" ["_law_got", "_law_due"] (spD C 2 (r__law_sameN n))
  | 0 => mkCalX Dx sc__law_same bd__law_same (by decide) fun f cdv A outer s H E hr ds r _ h => by
    obtain ⟨_, _, _, _, h, _⟩ := h
    exact absurd h (Nat.not_lt_zero _)
  | n + 1 => by
    have c__law_same : CalD P w K mg base (n + 1) "_law_same" ["_law_got", "_law_due"] (spD C 2 (r__law_sameN n)) := cal__law_sameN T Dx n
    refine mkCalX Dx sc__law_same bd__law_same (by decide) fun f cdv A outer s H E hr ds r _ h => ?_
    have hu := hu_of hr
    obtain ⟨got, due, fg, fe, hd, hg, he, rfl, rfl⟩ := h
    refine ⟨_, PSs.nox (pss_cons (ps_if (pt_val (pe_callB (crIsiT K) (by rfl) T.isinstance (by decide +kernel) (pa_cons (pv 1) (pa_cons (pe_tup (pa_cons (pe_bltn (v := .ty "list") (u := .type "list") (by rfl) T.list (by decide +kernel) rfl) (pa_cons (pe_bltn (v := .ty "tuple") (u := .type "tuple") (by rfl) T.tuple (by decide +kernel) rfl) pa_nil))) pa_nil)))) (pss_cons (ps_if (PW.pt (pw_or (pt_cmpR op_ne (pe_callB (crIsi K) (by rfl) T.isinstance (by decide +kernel) (pa_cons (pv 0) (pa_cons (pe_bltn (v := .ty "list") (u := .type "list") (by rfl) T.list (by decide +kernel) rfl) pa_nil))) (pe_callB (crIsi K) (by rfl) T.isinstance (by decide +kernel) (pa_cons (pv 1) (pa_cons (pe_bltn (v := .ty "list") (u := .type "list") (by rfl) T.list (by decide +kernel) rfl) pa_nil))) (nomark _)) (pw_or1 (pt_cmpR op_ne (pe_callB (crIsi K) (by rfl) T.isinstance (by decide +kernel) (pa_cons (pv 0) (pa_cons (pe_bltn (v := .ty "tuple") (u := .type "tuple") (by rfl) T.tuple (by decide +kernel) rfl) pa_nil))) (pe_callB (crIsi K) (by rfl) T.isinstance (by decide +kernel) (pa_cons (pv 1) (pa_cons (pe_bltn (v := .ty "tuple") (u := .type "tuple") (by rfl) T.tuple (by decide +kernel) rfl) pa_nil))) (nomark _))))) (pss_one (ps_ret pe_bl)) pss_nil)
      (pss_one (ps_ret (pe_and (pe_cmpR op_eq (pe_callB (crLen K) (by rfl) T.len PySem.boot_len (pa_cons (pv 0) pa_nil)) (pe_callB (crLen K) (by rfl) T.len PySem.boot_len (pa_cons (pv 1) pa_nil)) (nomark _)) (pe_one (pe_callB (crAll K) (by rfl) T.all (by decide +kernel) (pa_cons (pe_lc (own := [("_law_mine", 2), ("_law_its", 3)]) rfl sc__law_same.nd (piZip K (by rfl) T.zip (pa_cons (pv 0) (pa_cons (pv 1) pa_nil))) (blkOk_by rfl) (fun _ _ _ _ _ => (pgT K (n := 2) (pgs_cons (pg_name (i := 2) sc__law_same.nd rfl (Or.inl rfl)) (pgs_cons (pg_name (i := 3) sc__law_same.nd rfl (Or.inl rfl)) pgs_nil)))) (fun _ _ _ _ _ => pts_nil) (fun _ _ _ _ _ => (pe_d c__law_same hr (Nat.le_refl _) (by rfl) (pa_cons (pv 2) (pa_cons (pv 3) pa_nil))))) pa_nil))))))) pss_nil)
      (pss_cons (ps_if (PW.pt (pw_or (pt_cmpR op_isN (pv 1) pe_non (nomark _)) (pw_or1 (pt_val (pe_callB (crIsiT K) (by rfl) T.isinstance (by decide +kernel) (pa_cons (pv 1) (pa_cons (pe_tup (pa_cons (pe_bltn (v := .ty "bool") (u := .type "bool") (by rfl) T.bool (by decide +kernel) rfl) (pa_cons (pe_bltn (v := .ty "str") (u := .type "str") (by rfl) T.str (by decide +kernel) rfl) pa_nil))) pa_nil))))))) (pss_one (ps_ret (pe_and (pe_cmpR (opEqD K hr) (pv 0) (pv 1) (nomark _)) (pe_and (pe_cmpR op_eq (pe_callB (crIsi K) (by rfl) T.isinstance (by decide +kernel) (pa_cons (pv 0) (pa_cons (pe_bltn (v := .ty "bool") (u := .type "bool") (by rfl) T.bool (by decide +kernel) rfl) pa_nil))) (pe_callB (crIsi K) (by rfl) T.isinstance (by decide +kernel) (pa_cons (pv 1) (pa_cons (pe_bltn (v := .ty "bool") (u := .type "bool") (by rfl) T.bool (by decide +kernel) rfl) pa_nil))) (nomark _)) (pe_one (pe_cmpR op_eq (pe_cmpR op_isN (pv 0) pe_non (nomark _)) (pe_cmpR op_isN (pv 1) pe_non (nomark _)) (nomark _))))))) pss_nil)
      (pss_one (ps_ret (pe_and (pe_callB (crIsi K) (by rfl) T.isinstance (by decide +kernel) (pa_cons (pv 0) (pa_cons (pe_bltn (v := .ty "int") (u := .type "int") (by rfl) T.int (by decide +kernel) rfl) pa_nil))) (pe_and (pe_not (pe_callB (crIsi K) (by rfl) T.isinstance (by decide +kernel) (pa_cons (pv 0) (pa_cons (pe_bltn (v := .ty "bool") (u := .type "bool") (by rfl) T.bool (by decide +kernel) rfl) pa_nil)))) (pe_one (pe_cmpR (opEqD K hr) (pv 0) (pv 1) (nomark _))))))))), ?_⟩
    show Run C E _ [.va got, .va due, .un, .un] _
    have tt : ∀ {m m2 : String} {b c : Bool}, kitB (tyN due) m = some b → kitB (tyN due) m2 = some c → EvT (tTest (tCB (rIsiT K) (tCons (tVar 1) (tCons (tTup (tCons (tC (.ty m)) (tCons (tC (.ty m2)) tNil))) tNil)))) [.va got, .va due, .un, .un] [.va got, .va due, .un, .un] (b || c) := fun h1 h2 => et_test (ev_call (xs := [_, _]) (ea_cons (ev_var rfl) (ea_cons (ev_tup (xs := [_, _]) (ea_cons (ev_c fun _ => .ty _) (ea_cons (ev_c fun _ => .ty _) ea_nil)) (by simp)) ea_nil)) (cv_isiT (fine_ty fe) h1 h2))
    have isG : ∀ {m : String} {b : Bool}, kitB (tyN got) m = some b → EvD (tCB (rIsi K) (tCons (tVar 0) (tCons (tC (.ty m)) tNil))) [.va got, .va due, .un, .un] [.va got, .va due, .un, .un] (.va (.bl b)) := fun h => ev_isi (ev_var rfl) (ev_c fun _ => .ty _) (fine_ty fg) h
    have isE : ∀ {m : String} {b : Bool}, kitB (tyN due) m = some b → EvD (tCB (rIsi K) (tCons (tVar 1) (tCons (tC (.ty m)) tNil))) [.va got, .va due, .un, .un] [.va got, .va due, .un, .un] (.va (.bl b)) := fun h => ev_isi (ev_var rfl) (ev_c fun _ => .ty _) (fine_ty fe) h
    refine run_seq (fun ρ => isLD due = false ∧ isTD due = false ∧ ρ = [.va got, .va due, .un, .un]) (run_if (tt (kit_L fe) (kit_T fe)) (fun hb => ?_) fun hb => run_next ?_) ?_
    · refine run_seq (fun ρ => isLD got = isLD due ∧ isTD got = isTD due ∧ ρ = [.va got, .va due, .un, .un]) (run_if (b := (isLD got != isLD due) || (isTD got != isTD due)) (et_or (et_test (ev_op (isG (kit_L fg)) (isE (kit_L fe)) opv_neB)) fun _ => et_test (ev_op (isG (kit_T fg)) (isE (kit_T fe)) opv_neB)) (fun hc => run_ret (ev_c fun _ => .bl _) ?_) fun hc => run_next ?_) ?_
      · show some _ = some _
        cases due <;> first | (cases got <;> first | rfl | (simp [isLD, isTD] at hc)) | (simp [isLD, isTD] at hb)
      · rw [Bool.or_eq_false_iff] at hc
        exact ⟨by simpa using hc.1, by simpa using hc.2, rfl⟩
      · rintro _ ⟨e1, e2, rfl⟩
        have fin : ∀ (gs es : List D), fines gs = true → fines es = true → gs.length ≤ 1000 → es.length ≤ 1000 → depFs es < n → depFs gs ≤ 19 → depFs es ≤ 19 → EvI (RZ.iZipA K (tCons (tVar 0) (tCons (tVar 1) tNil))) [.va got, .va due, .un, .un] [.va got, .va due, .un, .un] (zipD gs es) →
            EvD (tCB (rAll K) (tCons (tLc (RZ.iZipA K (tCons (tVar 0) (tCons (tVar 1) tNil))) (gTup K 2 (gCons (gName 2) (gCons (gName 3) gNil))) tYes (tCall (spD C 2 (r__law_sameN n)) [] E0 (tCons (tVar 2) (tCons (tVar 3) tNil))) [2, 3]) tNil)) [.va got, .va due, .un, .un] [.va got, .va due, .un, .un] (.va (.bl (sameDs gs es))) := fun gs es f1 f2 z1 z2 d1 d2 d3 ez => by
          refine EvD.is (ev_all (ev_lcM (gs.zip es) (fun p => D.tup [p.1, p.2]) (fun p => .bl (sameD p.1 p.2)) (fun p => [.va got, .va due, .va p.1, .va p.2]) ez (by rw [List.length_zip]; omega) rfl (fun x _ => eg_tup (egs_name (egs_name egs_nil)) rfl) (fun x hx => ?_) (fun _ _ => rfl) (by simp))) (by rw [sameDs_zip])
          obtain ⟨m1, m2⟩ := List.of_mem_zip hx
          have q1 := depFs_mem m1
          have q2 := depFs_mem m2
          exact ev_callD (ds := [_, _]) (ea_cons (ev_var rfl) (ea_cons (ev_var rfl) ea_nil)) ⟨x.1, x.2, fines_mem f1 m1, fines_mem f2 m2, by omega, by omega, by omega, rfl, rfl⟩ rfl
        have lens : ∀ gs es : List D, decide (((gs.length : Nat) : Int) = ((es.length : Nat) : Int)) = decide (gs.length = es.length) := fun gs es => decide_eq_decide.mpr (by omega)
        cases due with
        | lst es =>
          cases got with
          | lst gs =>
            rw [fine, Bool.and_eq_true] at fg fe
            rw [depF] at hd hg he
            exact run_ret (EvD.is (ev_andV (ev_op (ev_lenL (ev_var rfl)) (ev_lenL (ev_var rfl)) opv_eqI) fun _ => fin gs es fg.1 fe.1 (of_decide_eq_true fg.2) (of_decide_eq_true fe.2) (by omega) (by omega) (by omega) (ei_zipL (ea_cons (ev_var rfl) (ea_cons (ev_var rfl) ea_nil)))) (by rw [lens, sameD])) rfl
          | _ => simp [isLD] at e1
        | tup es =>
          cases got with
          | tup gs =>
            rw [fine, Bool.and_eq_true] at fg fe
            rw [depF] at hd hg he
            exact run_ret (EvD.is (ev_andV (ev_op (ev_lenT (ev_var rfl)) (ev_lenT (ev_var rfl)) opv_eqI) fun _ => fin gs es fg.1 fe.1 (of_decide_eq_true fg.2) (of_decide_eq_true fe.2) (by omega) (by omega) (by omega) (ei_zipT (ea_cons (ev_var rfl) (ea_cons (ev_var rfl) ea_nil)))) (by rw [lens, sameD])) rfl
          | _ => simp [isTD] at e2
        | _ => simp [isLD, isTD] at hb
    · rw [Bool.or_eq_false_iff] at hb; exact ⟨hb.1, hb.2, rfl⟩
    · rintro _ ⟨e1, e2, rfl⟩
      have og := eqOk_fine fg hg
      have oe := eqOk_fine fe he
      have scal : ∀ (b c : Bool), kitB (tyN due) "bool" = some b → kitB (tyN due) "str" = some c → (b || c) = true → DL.isN due = false → (eqvD got due && ((isBD got == isBD due) && (DL.isN got == DL.isN due))) = sameD got due → ∀ t2 : TS, Run C E (tSeq (tIfS (tOr (tTest (tOp (fun x y H Q => y = .non ∧ Q (.bl (decide (x = .non))) H) (tVar 1) (tC .non))) (tTest (tCB (rIsiT K) (tCons (tVar 1) (tCons (tTup (tCons (tC (.ty "bool")) (tCons (tC (.ty "str")) tNil))) tNil)))))
          (tRet (tAndV (tOp (rEqD K) (tVar 0) (tVar 1)) (tAndV (tOp rEq (tCB (rIsi K) (tCons (tVar 0) (tCons (tC (.ty "bool")) tNil))) (tCB (rIsi K) (tCons (tVar 1) (tCons (tC (.ty "bool")) tNil)))) (tOp rEq (tOp (fun x y H Q => y = .non ∧ Q (.bl (decide (x = .non))) H) (tVar 0) (tC .non)) (tOp (fun x y H Q => y = .non ∧ Q (.bl (decide (x = .non))) H) (tVar 1) (tC .non)))))) tNext) t2) [.va got, .va due, .un, .un] (PoF (some (.bl (sameD got due)))) := fun b c h1 h2 h3 h4 h5 t2 => by
        refine run_seq (fun _ => False) (run_if (b := true) (EvT.is (et_or (et_test (ev_op (ev_var rfl) (ev_c fun _ => .non) opv_isN)) fun _ => tt h1 h2) (by rw [h4, Bool.false_or]; exact h3)) (fun _ => run_ret (EvD.is (ev_andV (ev_op (ev_var rfl) (ev_var rfl) (opv_eqD og oe)) fun _ => ev_andV (ev_op (isG (kit_B fg)) (isE (kit_B fe)) opv_eqB) fun _ => ev_op (ev_op (ev_var rfl) (ev_c fun _ => .non) opv_isN) (ev_op (ev_var rfl) (ev_c fun _ => .non) opv_isN) opv_eqB) (congrArg D.bl h5)) rfl) (fun z => by cases z)) fun _ z => z.elim
      cases due with
      | lst es => simp [isLD] at e1
      | tup es => simp [isTD] at e2
      | bl b => exact scal _ _ k_bool_bool k_bool_str rfl rfl (by cases got <;> simp [fine] at fg <;> simp [eqvD, toPy, PyData.eqv, isBD, DL.isN, sameD]) _
      | str x => exact scal _ _ k_str_bool k_str_str rfl rfl (by cases got <;> simp [fine] at fg <;> simp [eqvD, toPy, PyData.eqv, isBD, DL.isN, sameD]) _
      | int i =>
        refine run_seq1 (run_if (b := false) (EvT.is (et_or (et_test (ev_op (ev_var rfl) (ev_c fun _ => .non) opv_isN)) fun _ => tt k_int_bool k_int_str) rfl) (fun z => by cases z) fun _ => run_next rfl) ?_
        refine run_ret (EvD.is (ev_andV (isG (kit_I fg)) fun _ => ev_andV (ev_notV (isG (kit_B fg))) fun _ => ev_op (ev_var rfl) (ev_var rfl) (opv_eqD og oe)) ?_) rfl
        cases got <;> simp [fine] at fg <;> simp [eqvD, toPy, PyData.eqv, isBD, isID, sameD] <;> try rfl
      | _ => simp [fine] at fe
theorem cal__law_same (T : Txt K mg C) (Dx : DefAt K mg "_law_same" s__law_same f fd) : CalD P w K mg base 6 "_law_same" ["_law_got", "_law_due"] (spD C 2 r__law_same) := cal__law_sameN T Dx 5
theorem fine_nats (l : List Nat) : fines (l.map nD) = true := by
  induction l with
  | nil => rfl
  | cons a l ih => rw [List.map_cons, fines, ih] <;> rfl
theorem dep_nats (l : List Nat) : depFs (l.map nD) = 0 := by
  induction l with
  | nil => rfl
  | cons a l ih => rw [List.map_cons, depFs, ih] <;> rfl
theorem fine_nT {l : List Nat} (h : l.length ≤ 1000) : fine (nT l) = true := by
  show (fines (l.map nD) && decide ((l.map nD).length ≤ 1000)) = true
  rw [fine_nats, List.length_map, decide_eq_true h] <;> rfl
theorem dep_nT (l : List Nat) : depF (nT l) = 1 := by
  show depFs (l.map nD) + 1 = 1
  rw [dep_nats]
theorem same_nats : ∀ l k : List Nat, (decide ((l.map nD).length = (k.map nD).length) && sameDs (l.map nD) (k.map nD)) = decide (l = k)
  | [], [] => by simp [sameDs]
  | [], _ :: _ => by simp [sameDs]
  | _ :: _, [] => by simp [sameDs]
  | a :: l, b :: k => by
    have ih := same_nats l k
    rw [List.map_cons, List.map_cons, sameDs]
    rw [List.length_map, List.length_map] at ih
    have : sameD (nD a) (nD b) = decide (a = b) := by rw [sameD]; exact decide_eq_decide.mpr (by omega)
    rw [this]
    simp only [List.length_cons, List.length_map, Nat.add_right_cancel_iff, List.cons.injEq, Bool.decide_and]
    rw [← ih]
    cases decide (a = b) <;> simp
theorem same_nT (l k : List Nat) : sameD (nT l) (nT k) = decide (l = k) := by
  show sameD (.tup (l.map nD)) (.tup (k.map nD)) = _
  rw [sameD]
  exact same_nats l k

def r__law_one_of (ds : List D) (r : Option D) : Prop := ∃ (d : D) (rows : List (List Nat)) (b : Bool), rows.length ≤ 1000 ∧ (∀ r ∈ rows, r.length ≤ 1000) ∧ ((∃ l, d = nT l ∧ l.length ≤ 1000 ∧ b = decide (l ∈ rows)) ∨ (∃ gs, d = .lst gs ∧ fine d = true ∧ depF d ≤ 20 ∧ b = false)) ∧ ds = [d, .lst (rows.map nT)] ∧ r = some (.bl b)
theorem cal__law_one_of (T : Txt K mg C) (Dx : DefAt K mg "_law_one_of" s__law_one_of f fd) (c__law_same : CalD P w K mg base 6 "_law_same" ["_law_got", "_law_due"] (spD C 2 r__law_same)) : CalD P w K mg base 7 "_law_one_of" ["_law_matter", "_law_rows_so"] (spD C 2 r__law_one_of) := by
  refine mkCal Dx sc__law_one_of bd__law_one_of (by decide) fun f cdv A outer s H E hr => have hu := hu_of hr; ⟨_, (pss_one (ps_ret (pe_cmpR (opNeD K hr) (pe_lc (own := [("_law_own", 2)]) rfl sc__law_one_of.nd (piL K (pv 1)) (blkOk_by rfl) (fun _ _ _ _ _ => (pg_name (i := 2) sc__law_one_of.nd rfl (Or.inl rfl))) (fun _ _ _ _ _ => (pts_one (pt_val (pe_d c__law_same hr (by decide) (by rfl) (pa_cons (pv 0) (pa_cons (pv 2) pa_nil)))))) (fun _ _ _ _ _ => pe_int)) (pe_lst pa_nil) (nomark _)))), ?_⟩
  rintro ds r _ ⟨d, rows, b, hz, hr1, hd, rfl, rfl⟩
  show Run C E _ [.va d, .va (.lst (rows.map nT)), .un] _
  have hf : fine d = true ∧ depF d ≤ 20 := by
    rcases hd with ⟨l, rfl, h, _⟩ | ⟨gs, rfl, h1, h2, _⟩
    · exact ⟨fine_nT h, by rw [dep_nT]; omega⟩
    · exact ⟨h1, h2⟩
  have e1 : ∀ l : List (List Nat), (.lst (l.map fun _ => D.int 1)) = nL (l.map fun _ => 1) := fun l => by simp only [nL, List.map_map]; rfl
  refine run_ret (EvD.is (ev_op (EvD.fz (ev_lcP rows nT (fun p => sameD d (nT p)) (fun _ => .int 1) (fun p => [.va d, .va (.lst (rows.map nT)), .va (nT p)]) (ei_list (ev_var rfl)) (by omega) rfl (fun x _ => eg_name 2) (fun x hx => et_test (ev_callD (ds := [_, _]) (ea_cons (ev_var rfl) (ea_cons (ev_var rfl) ea_nil)) ⟨d, nT x, hf.1, fine_nT (hr1 x hx), by rw [dep_nT]; omega, hf.2, by rw [dep_nT]; omega, rfl, rfl⟩ rfl)) (fun x _ _ => (ev_c fun _ => .int _)) (fun _ _ => rfl) (by simp))) (EvD.fz (ev_lst (xs := []) ea_nil (by simp))) (opv_ne_nil (by rw [e1]; exact eqOk_nL _))) ?_) rfl
  have em : ((rows.filter fun p => sameD d (nT p)).map fun _ => D.int 1).isEmpty = (rows.filter fun p => sameD d (nT p)).isEmpty := by cases rows.filter fun p => sameD d (nT p) <;> rfl
  rw [em]
  congr 1
  rcases hd with ⟨l, rfl, h, rfl⟩ | ⟨gs, rfl, h1, h2, rfl⟩
  · by_cases hm : l ∈ rows
    · have : l ∈ rows.filter fun p => sameD (nT l) (nT p) := List.mem_filter.mpr ⟨hm, by rw [same_nT]; exact decide_eq_true rfl⟩
      rw [decide_eq_true hm]
      cases h : rows.filter fun p => sameD (nT l) (nT p) with
      | nil => rw [h] at this; cases this
      | cons a t => rfl
    · rw [decide_eq_false hm]
      have : rows.filter (fun p => sameD (nT l) (nT p)) = [] := by
        rw [List.filter_eq_nil_iff]
        intro p hp hs
        rw [same_nT] at hs
        exact hm (of_decide_eq_true hs ▸ hp)
      rw [this] <;> rfl
  · have : rows.filter (fun p => sameD (.lst gs) (nT p)) = [] := by
      rw [List.filter_eq_nil_iff]
      intro p hp hs
      have e : sameD (.lst gs) (nT p) = false := by
        show sameD (.lst gs) (.tup _) = false
        simp [sameD]
      rw [e] at hs; cases hs
    rw [this] <;> rfl
def r__law_is_walk (ds : List D) (r : Option D) : Prop := ∃ (w : Web) (d : D) (b : Bool), w.Ok ∧ ((∃ l, d = nT l ∧ l.length ≤ 1000 ∧ b = isWalk w l) ∨ (∃ gs, d = .lst gs ∧ b = false)) ∧ ds = [encW w, d] ∧ r = some (.bl b)
theorem cal__law_is_walk (T : Txt K mg C) (Dx : DefAt K mg "_law_is_walk" s__law_is_walk f fd)  : CalD P w K mg base 1 "_law_is_walk" ["_law_net", "_law_matter"] (spD C 2 r__law_is_walk) := by
  refine mkCal Dx sc__law_is_walk bd__law_is_walk (by decide) fun f cdv A outer s H E hr => have hu := hu_of hr; ⟨_, (pss_cons (ps_if (PW.pt (pw_or (pt_not (pt_val (pe_callB (crIsi K) (by rfl) T.isinstance (by decide +kernel) (pa_cons (pv 1) (pa_cons (pe_bltn (v := .ty "tuple") (u := .type "tuple") (by rfl) T.tuple (by decide +kernel) rfl) pa_nil))))) (pw_or1 (pt_cmpR (opNeD K hr) (pe_lc (own := [("_law_own", 2)]) rfl sc__law_is_walk.nd (piT K (pv 1)) (blkOk_by rfl) (fun _ _ _ _ _ => (pg_name (i := 2) sc__law_is_walk.nd rfl (Or.inl rfl))) (fun _ _ _ _ _ => (pts_one (PW.pt (pw_or (pt_not (pt_val (pe_callB (crIsi K) (by rfl) T.isinstance (by decide +kernel) (pa_cons (pv 2) (pa_cons (pe_bltn (v := .ty "int") (u := .type "int") (by rfl) T.int (by decide +kernel) rfl) pa_nil))))) (pw_or1 (pt_val (pe_callB (crIsi K) (by rfl) T.isinstance (by decide +kernel) (pa_cons (pv 2) (pa_cons (pe_bltn (v := .ty "bool") (u := .type "bool") (by rfl) T.bool (by decide +kernel) rfl) pa_nil))))))))) (fun _ _ _ _ _ => pe_int)) (pe_lst pa_nil) (nomark _))))) (pss_one (ps_ret pe_bl)) pss_nil)
      (pss_one (ps_ret (pe_cmpR (opEqD K hr) (pe_callB (crSortTI K) (by rfl) T.sorted (by decide +kernel) (pa_cons (pv 1) pa_nil)) (pe_listRg rfl (by rfl) T.list (prg_1 (by rfl) T.range (pe_callB (crLen K) (by rfl) T.len PySem.boot_len (pa_cons (pe_ix (ixT K) (pv 0) pe_int (fun _ _ => rfl)) pa_nil)))) (nomark _))))), ?_⟩
  rintro ds r _ ⟨w, d, b, hw, hd, rfl, rfl⟩
  show Run C E _ [.va (encW w), .va d, .un] _
  have hf := hw.few
  rcases hd with ⟨l, rfl, hz, rfl⟩ | ⟨gs, rfl, rfl⟩
  · have hnil : (l.filter fun _ => false) = [] := List.filter_eq_nil_iff.mpr fun _ _ h => by cases h
    refine run_seq1 (run_if (et_or (b1 := false) (b2 := false) (et_not (b := true) (et_test (ev_isi (ev_var rfl) (ev_c fun _ => .ty _) rfl k_tuple_tuple))) fun _ => et_test (ev_op (EvD.is (EvD.fz (ev_lcP l nD (fun _ => false) (fun _ => .int 1) (fun x => [.va (encW w), .va (nT l), .va (nD x)]) (ei_tup (ev_var rfl)) (by omega) rfl (fun x _ => eg_name 2) (fun x hx => et_or (b1 := false) (b2 := false) (et_not (b := true) (et_test (ev_isi (ev_var rfl) (ev_c fun _ => .ty _) rfl k_int_int))) fun _ => et_test (ev_isi (ev_var rfl) (ev_c fun _ => .ty _) rfl k_int_bool)) (fun x _ _ => (ev_c fun _ => .int _)) (fun _ _ => rfl) (by simp))) (d' := .lst []) (by rw [hnil] <;> rfl)) (EvD.fz (ev_lst (xs := []) ea_nil (by simp))) (opv_ne_nil (eqOk_nL [])))) (fun z => by cases z) fun _ => run_next rfl) ?_
    exact run_ret (ev_op (EvD.fz (ev_callO (xs := [_]) (ea_cons (ev_var rfl) ea_nil) co_sortTI)) (EvD.fz (ev_lstRg (ev_lenG rfl) (by omega))) opv_eq_nL) rfl
  · refine run_seq (fun _ => False) (run_if (et_or (b1 := true) (b2 := true) (et_not (b := false) (et_test (ev_isi (ev_var rfl) (ev_c fun _ => .ty _) rfl k_list_tuple))) fun z => by cases z) (fun _ => run_ret (ev_c fun _ => .bl _) rfl) fun z => by cases z) fun _ z => z.elim

theorem walk_lt {w : Web} {l : List Nat} (h : isWalk w l = true) : (∀ k ∈ l, k < w.gs.length) ∧ l.length = w.gs.length := by
  have e : srt l = List.range w.gs.length := of_decide_eq_true h
  have p := srt_perm l
  rw [e] at p
  exact ⟨fun k hk => List.mem_range.mp (p.mem_iff.mpr hk), by rw [← p.length_eq, List.length_range]⟩
theorem lawRun_len (w : Web) (l : List Nat) : (lawRun w l).length = w.gs.length := by
  unfold lawRun
  rw [(run_lens w l _).1, List.length_replicate]

def r__law_just (ds : List D) (r : Option D) : Prop := ∃ (w : Web) (h : List Nat) (d : D) (b : Bool), w.Ok ∧ ((∃ l, d = nT l ∧ l.length ≤ 1000 ∧ b = isJust w h l) ∨ (∃ gs, d = .lst gs ∧ b = false)) ∧ ds = [encW w, nT h, d] ∧ r = some (.bl b)
theorem cal__law_just (T : Txt K mg C) (Dx : DefAt K mg "_law_just" s__law_just f fd) (c__law_is_walk : CalD P w K mg base 1 "_law_is_walk" ["_law_net", "_law_matter"] (spD C 2 r__law_is_walk)) (c__law_lacking : CalD P w K mg base 1 "_law_lacking" ["_law_seats"] (spD C 1 r__law_lacking)) (c__law_run : CalD P w K mg base 2 "_law_run" ["_law_net", "_law_walk_here"] (spD C 2 r__law_run)) : CalD P w K mg base 3 "_law_just" ["_law_net", "_law_heap", "_law_matter"] (spD C 3 r__law_just) := by
  refine mkCal Dx sc__law_just bd__law_just (by decide) fun f cdv A outer s H E hr => have hu := hu_of hr; ⟨_, (pss_one (ps_ret (pe_and (pe_d c__law_is_walk hr (by decide) (by rfl) (pa_cons (pv 0) (pa_cons (pv 2) pa_nil))) (pe_one (pe_cmpR (opEqD K hr) (pe_d c__law_lacking hr (by decide) (by rfl) (pa_cons (pe_d c__law_run hr (by decide) (by rfl) (pa_cons (pv 0) (pa_cons (pv 2) pa_nil))) pa_nil)) (pv 1) (nomark _)))))), ?_⟩
  rintro ds r _ ⟨w, h, d, b, hw, hd, rfl, rfl⟩
  show Run C E _ [.va (encW w), .va (nT h), .va d] _
  have hf := hw.few
  rcases hd with ⟨l, rfl, hz, rfl⟩ | ⟨gs, rfl, rfl⟩
  · refine run_ret (ev_andV (ev_callD (ds := [_, _]) (ea_cons (ev_var rfl) (ea_cons (ev_var rfl) ea_nil)) ⟨w, _, _, hw, .inl ⟨l, rfl, hz, rfl⟩, rfl, rfl⟩ rfl) fun hb => ?_) rfl
    obtain ⟨h1, h2⟩ := walk_lt hb
    exact ev_op (ev_callD (ds := [_]) (ea_cons (ev_callD (ds := [_, _]) (ea_cons (ev_var rfl) (ea_cons (ev_var rfl) ea_nil)) ⟨w, l, hw, h1, hz, rfl, rfl⟩ rfl) ea_nil) ⟨lawRun w l, by rw [lawRun_len]; omega, rfl, rfl⟩ rfl) (ev_var rfl) opv_eq_nT
  · exact run_ret (ev_andV (b1 := false) (b2 := false) (ev_callD (ds := [_, _]) (ea_cons (ev_var rfl) (ea_cons (ev_var rfl) ea_nil)) ⟨w, _, _, hw, .inr ⟨gs, rfl, rfl⟩, rfl, rfl⟩ rfl) fun hb => by cases hb) rfl
def r__law_all_of (ds : List D) (r : Option D) : Prop := ∃ (w : Web) (h : List Nat) (d : D) (b : Bool), w.Ok ∧ h.length ≤ 1000 ∧ ((∃ l, d = nT l ∧ l.length ≤ 1000 ∧ b = isAllOf w h l) ∨ (∃ gs, d = .lst gs ∧ b = false)) ∧ ds = [encW w, nT h, d] ∧ r = some (.bl b)
theorem cal__law_all_of (T : Txt K mg C) (Dx : DefAt K mg "_law_all_of" s__law_all_of f fd) (c__law_are_within : CalD P w K mg base 1 "_law_are_within" ["_law_heap", "_law_wide_so"] (spD C 2 r__law_are_within)) (c__law_is_walk : CalD P w K mg base 1 "_law_is_walk" ["_law_net", "_law_matter"] (spD C 2 r__law_is_walk)) (c__law_lacking : CalD P w K mg base 1 "_law_lacking" ["_law_seats"] (spD C 1 r__law_lacking)) (c__law_run : CalD P w K mg base 2 "_law_run" ["_law_net", "_law_walk_here"] (spD C 2 r__law_run)) : CalD P w K mg base 3 "_law_all_of" ["_law_net", "_law_heap", "_law_matter"] (spD C 3 r__law_all_of) := by
  refine mkCal Dx sc__law_all_of bd__law_all_of (by decide) fun f cdv A outer s H E hr => have hu := hu_of hr; ⟨_, (pss_one (ps_ret (pe_and (pe_d c__law_is_walk hr (by decide) (by rfl) (pa_cons (pv 0) (pa_cons (pv 2) pa_nil))) (pe_one (pe_d c__law_are_within hr (by decide) (by rfl) (pa_cons (pv 1) (pa_cons (pe_d c__law_lacking hr (by decide) (by rfl) (pa_cons (pe_d c__law_run hr (by decide) (by rfl) (pa_cons (pv 0) (pa_cons (pv 2) pa_nil))) pa_nil)) pa_nil))))))), ?_⟩
  rintro ds r _ ⟨w, h, d, b, hw, hh, hd, rfl, rfl⟩
  show Run C E _ [.va (encW w), .va (nT h), .va d] _
  have hf := hw.few
  rcases hd with ⟨l, rfl, hz, rfl⟩ | ⟨gs, rfl, rfl⟩
  · refine run_ret (ev_andV (ev_callD (ds := [_, _]) (ea_cons (ev_var rfl) (ea_cons (ev_var rfl) ea_nil)) ⟨w, _, _, hw, .inl ⟨l, rfl, hz, rfl⟩, rfl, rfl⟩ rfl) fun hb => ?_) rfl
    obtain ⟨h1, h2⟩ := walk_lt hb
    exact ev_callD (ds := [_, _]) (ea_cons (ev_var rfl) (ea_cons (ev_callD (ds := [_]) (ea_cons (ev_callD (ds := [_, _]) (ea_cons (ev_var rfl) (ea_cons (ev_var rfl) ea_nil)) ⟨w, l, hw, h1, hz, rfl, rfl⟩ rfl) ea_nil) ⟨lawRun w l, by rw [lawRun_len]; omega, rfl, rfl⟩ rfl) ea_nil)) ⟨h, _, _, _, .inl rfl, .inl rfl, by omega, rfl, rfl⟩ rfl
  · exact run_ret (ev_andV (b1 := false) (b2 := false) (ev_callD (ds := [_, _]) (ea_cons (ev_var rfl) (ea_cons (ev_var rfl) ea_nil)) ⟨w, _, _, hw, .inr ⟨gs, rfl, rfl⟩, rfl, rfl⟩ rfl) fun hb => by cases hb) rfl

theorem asc_extN {l k : List Nat} (hl : l.Pairwise (· < ·)) (hk : k.Pairwise (· < ·)) (h : ∀ x, x ∈ l ↔ x ∈ k) : l = k := by
  have z := asc_ext (l := l.map fun (n : Nat) => (n : Int)) (k := k.map fun (n : Nat) => (n : Int)) (List.pairwise_map.mpr (hl.imp fun h => by omega)) (List.pairwise_map.mpr (hk.imp fun h => by omega)) fun x => by
    rw [List.mem_map, List.mem_map]
    exact ⟨fun ⟨a, h1, h2⟩ => ⟨a, (h a).mp h1, h2⟩, fun ⟨a, h1, h2⟩ => ⟨a, (h a).mpr h1, h2⟩⟩
  have z2 := congrArg (List.map Int.toNat) z
  have id1 : ∀ m : List Nat, (m.map fun (n : Nat) => (n : Int)).map Int.toNat = m := fun m => by
    rw [List.map_map]
    have : (Int.toNat ∘ fun (n : Nat) => (n : Int)) = id := funext fun n => Int.toNat_natCast n
    rw [this, List.map_id]
  rwa [id1, id1] at z2
theorem setOf_self {l : List Nat} (h : l.Pairwise (· < ·)) : setOf l = l := asc_extN (setOf_asc l) h fun x => mem_setOf

def r__law_is_heap (ds : List D) (r : Option D) : Prop := ∃ (m : Nat) (l : List Nat), (∀ x ∈ l, x < m) ∧ l.Pairwise (· < ·) ∧ l.length < 64 ∧ ds = [nD m, nT l] ∧ r = some (.bl true)
theorem cal__law_is_heap (T : Txt K mg C) (Dx : DefAt K mg "_law_is_heap" s__law_is_heap f fd)  : CalD P w K mg base 1 "_law_is_heap" ["_law_many_so", "_law_matter"] (spD C 2 r__law_is_heap) := by
  refine mkCal Dx sc__law_is_heap bd__law_is_heap (by decide) fun f cdv A outer s H E hr => have hu := hu_of hr; ⟨_, (pss_cons (ps_if (pt_not (pt_val (pe_callB (crIsi K) (by rfl) T.isinstance (by decide +kernel) (pa_cons (pv 1) (pa_cons (pe_bltn (v := .ty "tuple") (u := .type "tuple") (by rfl) T.tuple (by decide +kernel) rfl) pa_nil))))) (pss_one (ps_ret pe_bl)) pss_nil)
      (pss_cons (ps_if (pt_cmpR (opNeD K hr) (pe_lc (own := [("_law_own", 2)]) rfl sc__law_is_heap.nd (piT K (pv 1)) (blkOk_by rfl) (fun _ _ _ _ _ => (pg_name (i := 2) sc__law_is_heap.nd rfl (Or.inl rfl))) (fun _ _ _ _ _ => (pts_one (PW.pt (pw_or (pt_not (pt_val (pe_callB (crIsi K) (by rfl) T.isinstance (by decide +kernel) (pa_cons (pv 2) (pa_cons (pe_bltn (v := .ty "int") (u := .type "int") (by rfl) T.int (by decide +kernel) rfl) pa_nil))))) (pw_or (pt_val (pe_callB (crIsi K) (by rfl) T.isinstance (by decide +kernel) (pa_cons (pv 2) (pa_cons (pe_bltn (v := .ty "bool") (u := .type "bool") (by rfl) T.bool (by decide +kernel) rfl) pa_nil)))) (pw_or1 (pt_not (pt_chain op_le op_lt pe_int (pv 2) (pv 0))))))))) (fun _ _ _ _ _ => (pv 2))) (pe_lst pa_nil) (nomark _)) (pss_one (ps_ret pe_bl)) pss_nil)
      (pss_one (ps_ret (pe_cmpR (opEqD K hr) (pe_callTy (crLst K) (by rfl) T.list (by decide +kernel) (pa_cons (pv 1) pa_nil)) (pe_callB (crSortedSet w) (by rfl) T.sorted (by decide +kernel) (pa_cons (pe_callTy (crSet K w) (by rfl) T.set (by decide +kernel) (pa_cons (pv 1) pa_nil)) pa_nil)) (nomark _)))))), ?_⟩
  rintro ds r _ ⟨m, l, hl, ha, hz, rfl, rfl⟩
  show Run C E _ [.va (nD m), .va (nT l), .un] _
  have hnil : (l.filter fun _ => false) = [] := List.filter_eq_nil_iff.mpr fun _ _ h => by cases h
  refine run_seq1 (run_if (et_not (b := true) (et_test (ev_isi (ev_var rfl) (ev_c fun _ => .ty _) rfl k_tuple_tuple))) (fun z => by cases z) fun _ => run_next rfl) ?_
  refine run_seq1 (run_if (b := false) (et_test (ev_op (EvD.is (EvD.fz (ev_lcP l nD (fun _ => false) nD (fun x => [.va (nD m), .va (nT l), .va (nD x)]) (ei_tup (ev_var rfl)) (by omega) rfl (fun x _ => eg_name 2)
    (fun x hx => et_or (b1 := false) (b2 := false) (et_not (b := true) (et_test (ev_isi (ev_var rfl) (ev_c fun _ => .ty _) rfl k_int_int))) fun _ => et_or (b1 := false) (b2 := false) (et_test (ev_isi (ev_var rfl) (ev_c fun _ => .ty _) rfl k_int_bool)) fun _ => et_not (b := true) (et_test (EvD.is (ev_chain (ev_c fun _ => .int _) (ev_var rfl) opv_bl (ev_var rfl) opv_bl) (by have := hl x hx; simp; omega)))) (fun x _ _ => (ev_var rfl)) (fun _ _ => rfl) (by simp))) (d' := .lst []) (by rw [hnil] <;> rfl)) (EvD.fz (ev_lst (xs := []) ea_nil (by simp))) (opv_ne_nil (eqOk_nL [])))) (fun z => by cases z) fun _ => run_next rfl) ?_
  refine run_ret (EvD.is (ev_op (EvD.fz (ev_lstT (ev_var rfl))) (EvD.fz (ev_sset (ev_var rfl) (.inl rfl) hz)) opv_eq_nL) ?_) rfl
  rw [setOf_self ha]
  simp
end
end K17
end

section
set_option maxRecDepth 100000
set_option maxHeartbeats 4000000
/-! Parts are the classes of places joined by guests. -/
namespace K17
open MN DL
/-- joined by guests of a lot -/
inductive Cn (w : Web) (o : List Nat) : Nat → Nat → Prop
  | refl (p : Nat) : Cn w o p p
  | fwd {p g : Nat} : Cn w o p (w.g g).1 → g ∈ o → Cn w o p (w.g g).2
  | bwd {p g : Nat} : Cn w o p (w.g g).2 → g ∈ o → Cn w o p (w.g g).1
section
variable {w : Web} {o : List Nat}
theorem Cn.trans {p q r : Nat} (a : Cn w o p q) (b : Cn w o q r) : Cn w o p r := by
  induction b with
  | refl => exact a
  | fwd _ hg ih => exact .fwd ih hg
  | bwd _ hg ih => exact .bwd ih hg
theorem Cn.symm {p q : Nat} (a : Cn w o p q) : Cn w o q p := by
  induction a with
  | refl => exact .refl _
  | fwd _ hg ih => exact Cn.trans (.bwd (.refl _) hg) ih
  | bwd _ hg ih => exact Cn.trans (.fwd (.refl _) hg) ih
theorem Cn.mono {o' : List Nat} (h : ∀ g ∈ o, g ∈ o') {p q : Nat} (a : Cn w o p q) : Cn w o' p q := by
  induction a with
  | refl => exact .refl _
  | fwd _ hg ih => exact .fwd ih (h _ hg)
  | bwd _ hg ih => exact .bwd ih (h _ hg)
theorem Cn.guest {g : Nat} (h : g ∈ o) : Cn w o (w.g g).1 (w.g g).2 := .fwd (.refl _) h
/-- a set closed under the guests -/
theorem Cn.closed {S : Nat → Prop} (hf : ∀ g ∈ o, S (w.g g).1 → S (w.g g).2) (hb : ∀ g ∈ o, S (w.g g).2 → S (w.g g).1) {p q : Nat} (a : Cn w o p q) (hp : S p) : S q := by
  induction a with
  | refl => exact hp
  | fwd _ hg ih => exact hf _ hg ih
  | bwd _ hg ih => exact hb _ hg ih
theorem nbr_cn {p q : Nat} (h : q ∈ nbr w o p) : Cn w o p q := by
  unfold nbr at h
  obtain ⟨e, he, rfl⟩ := List.mem_map.mp h
  obtain ⟨h1, h2 | h2⟩ := adj_mem he
  · obtain ⟨a, b⟩ := h2; rw [← a, ← b]; exact Cn.guest h1
  · obtain ⟨a, b⟩ := h2; rw [← a, ← b]; exact (Cn.guest h1).symm
theorem nbr_of {g : Nat} (h : g ∈ o) : (w.g g).2 ∈ nbr w o (w.g g).1 ∧ (w.g g).1 ∈ nbr w o (w.g g).2 := by
  obtain ⟨a, b⟩ := adj_of (w := w) h
  unfold nbr
  exact ⟨List.mem_map.mpr ⟨_, a, rfl⟩, List.mem_map.mpr ⟨_, b, rfl⟩⟩
theorem puts_pre : ∀ (m row : List Nat), ∃ t, m.foldl put row = row ++ t
  | [], row => ⟨[], by simp⟩
  | a :: m, row => by
    obtain ⟨t, ht⟩ := puts_pre m (put row a)
    rw [List.foldl_cons, ht]
    unfold put
    split
    · exact ⟨t, rfl⟩
    · exact ⟨a :: t, by simp⟩
theorem bfs_sound {nb : Nat → List Nat} {S : Nat → Prop} (hs : ∀ p, S p → ∀ q ∈ nb p, S q) : ∀ (f : Nat) (row : List Nat) (spot : Nat), (∀ x ∈ row, S x) → ∀ x ∈ bfs nb f row spot, S x
  | 0, row, spot, h => h
  | f + 1, row, spot, h => by
    rw [bfs]
    split
    · rename_i hlt
      refine bfs_sound hs f _ _ fun x hx => ?_
      rcases mem_puts.mp hx with h' | h'
      · exact h x h'
      · refine hs _ (h _ ?_) x h'
        rw [List.getD_eq_getElem?_getD, List.getElem?_eq_getElem hlt]
        exact List.getElem_mem hlt
    · exact h
theorem bfs_closed {nb : Nat → List Nat} {n : Nat} (hn : ∀ p, ∀ x ∈ nb p, x < n) : ∀ (f : Nat) (row : List Nat) (spot : Nat), row.Nodup → (∀ x ∈ row, x < n) → spot ≤ row.length → f + spot = n + 1 → (∀ i, i < spot → ∀ y ∈ nb (row.getD i 0), y ∈ row) →
    ∀ x ∈ bfs nb f row spot, ∀ y ∈ nb x, y ∈ bfs nb f row spot
  | 0, row, spot, h1, h2, h3, h4, _ => by have := len_of_lt h1 h2; omega
  | f + 1, row, spot, h1, h2, h3, h4, h5 => by
    rw [bfs]
    split
    · rename_i hlt
      obtain ⟨t, ht⟩ := puts_pre (nb (row.getD spot 0)) row
      refine bfs_closed hn f _ _ (puts_nodup h1) (puts_lt (hn _) h2) ?_ (by omega) fun i hi y hy => ?_
      · rw [ht, List.length_append]; omega
      · have e : ((nb (row.getD spot 0)).foldl put row).getD i 0 = row.getD i 0 := by
          rw [ht, List.getD_eq_getElem?_getD, List.getElem?_append_left (by omega), List.getD_eq_getElem?_getD]
        rw [e] at hy
        by_cases his : i = spot
        · subst his; exact mem_puts.mpr (.inr hy)
        · exact mem_puts.mpr (.inl (h5 i (by omega) y hy))
    · intro x hx y hy
      obtain ⟨i, hi, rfl⟩ := List.getElem_of_mem hx
      refine h5 i (by omega) y ?_
      rw [List.getD_eq_getElem?_getD, List.getElem?_eq_getElem hi]
      exact hy
/-- the part of a place -/
theorem mem_part (hw : w.Ok) (ho : ∀ g ∈ o, g < w.gs.length) {p : Nat} (hp : p < w.many) {q : Nat} : q ∈ partFrom w o p ↔ Cn w o p q := by
  unfold partFrom
  rw [(srt_perm _).mem_iff]
  obtain ⟨_, _, c⟩ := bfs_ok (nbr_lt hw ho) (w.many + 1) [p] 0 (by simp) (by simpa using hp)
  constructor
  · exact fun h => bfs_sound (S := Cn w o p) (fun a ha b hb => ha.trans (nbr_cn hb)) _ _ _ (by simp [Cn.refl]) q h
  · intro h
    have cl := bfs_closed (nbr_lt hw ho) (w.many + 1) [p] 0 (by simp) (by simpa using hp) (Nat.zero_le _) rfl (fun i hi => by omega)
    exact h.closed (S := fun x => x ∈ bfs (nbr w o) (w.many + 1) [p] 0) (fun g hg hx => cl _ hx _ (nbr_of hg).1) (fun g hg hx => cl _ hx _ (nbr_of hg).2) (c p (by simp))
theorem part_asc (hw : w.Ok) (ho : ∀ g ∈ o, g < w.gs.length) {p : Nat} (hp : p < w.many) : (partFrom w o p).Pairwise (· < ·) :=
  asc_of (srt_sorted _) (partFrom_ok hw ho hp).1
/-- classes are equal -/
theorem part_eq (hw : w.Ok) (ho : ∀ g ∈ o, g < w.gs.length) {p q : Nat} (hp : p < w.many) (hq : q < w.many) (h : Cn w o p q) : partFrom w o p = partFrom w o q :=
  asc_extN (part_asc hw ho hp) (part_asc hw ho hq) fun x => by
    rw [mem_part hw ho hp, mem_part hw ho hq]
    exact ⟨fun a => h.symm.trans a, fun a => h.trans a⟩
/-! ### all the parts -/
structure PI (w : Web) (o : List Nat) (s : List (List Nat) × List Nat) : Prop where
  seen : ∀ x, x ∈ s.2 ↔ ∃ part ∈ s.1, x ∈ part
  cls : ∀ part ∈ s.1, ∃ q, q < w.many ∧ part = partFrom w o q
  dis : s.1.Pairwise fun a b => ∀ x ∈ a, x ∉ b
theorem parts_inv (hw : w.Ok) (ho : ∀ g ∈ o, g < w.gs.length) : ∀ (ps : List Nat) (s : List (List Nat) × List Nat), (∀ p ∈ ps, p < w.many) → PI w o s → PI w o (ps.foldl (partsStep w o) s) ∧ (∀ x ∈ s.2, x ∈ (ps.foldl (partsStep w o) s).2) ∧ ∀ p ∈ ps, p ∈ (ps.foldl (partsStep w o) s).2
  | [], s, _, h => ⟨h, fun _ h => h, fun _ h => nomatch h⟩
  | p :: ps, s, hp, h => by
    have hpl := hp p (by simp)
    have hstep : PI w o (partsStep w o s p) ∧ (∀ x ∈ s.2, x ∈ (partsStep w o s p).2) ∧ p ∈ (partsStep w o s p).2 := by
      unfold partsStep
      split
      · rename_i hm; exact ⟨h, fun _ h => h, hm⟩
      · rename_i hm
        refine ⟨⟨fun x => ?_, fun part hpart => ?_, ?_⟩, fun x hx => mem_puts.mpr (.inl hx), mem_puts.mpr (.inr (partFrom_ok hw ho hpl).2.2)⟩
        · show x ∈ (partFrom w o p).foldl put s.2 ↔ _
          rw [mem_puts, h.seen x]
          constructor
          · rintro (⟨part, a, b⟩ | a)
            · exact ⟨part, List.mem_append.mpr (.inl a), b⟩
            · exact ⟨_, List.mem_append.mpr (.inr (by simp)), a⟩
          · rintro ⟨part, a, b⟩
            rcases List.mem_append.mp a with a | a
            · exact .inl ⟨part, a, b⟩
            · rw [List.mem_singleton.mp a] at b; exact .inr b
        · rcases List.mem_append.mp hpart with a | a
          · exact h.cls part a
          · exact ⟨p, hpl, List.mem_singleton.mp a⟩
        · refine List.pairwise_append.mpr ⟨h.dis, by simp, fun a ha b hb x hx hxb => ?_⟩
          rw [List.mem_singleton.mp hb] at hxb
          obtain ⟨q, hq, rfl⟩ := h.cls a ha
          have c1 := (mem_part hw ho hq).mp hx
          have c2 := (mem_part hw ho hpl).mp hxb
          exact hm ((h.seen p).mpr ⟨_, ha, (mem_part hw ho hq).mpr (c1.trans c2.symm)⟩)
    obtain ⟨a, b, c⟩ := parts_inv hw ho ps _ (fun q hq => hp q (List.mem_cons_of_mem _ hq)) hstep.1
    rw [List.foldl_cons]
    refine ⟨a, fun x hx => b x (hstep.2.1 x hx), fun q hq => ?_⟩
    rcases List.mem_cons.mp hq with rfl | hq
    · exact b _ hstep.2.2
    · exact c q hq
theorem partsIn_spec (hw : w.Ok) (ho : ∀ g ∈ o, g < w.gs.length) : (∀ part, part ∈ partsIn w o ↔ ∃ q, q < w.many ∧ part = partFrom w o q) ∧ (partsIn w o).Pairwise fun a b => ∀ x ∈ a, x ∉ b := by
  obtain ⟨a, b, c⟩ := parts_inv hw ho (List.range w.many) ([], []) (fun p hp => List.mem_range.mp hp) ⟨by simp, by simp, by simp⟩
  refine ⟨fun part => ⟨a.cls part, ?_⟩, a.dis⟩
  rintro ⟨q, hq, rfl⟩
  obtain ⟨part, h1, h2⟩ := (a.seen q).mp (c q (List.mem_range.mpr hq))
  obtain ⟨p, hp, rfl⟩ := a.cls part h1
  have e := part_eq hw ho hp hq ((mem_part hw ho hp).mp h2)
  rw [e] at h1
  exact h1
theorem partsIn_nodup (hw : w.Ok) (ho : ∀ g ∈ o, g < w.gs.length) : (partsIn w o).Nodup := by
  obtain ⟨h1, h2⟩ := partsIn_spec hw ho
  refine (List.Pairwise.and_mem.mp h2).imp ?_
  rintro a b ⟨ha, hb, h⟩ rfl
  obtain ⟨q, hq, rfl⟩ := (h1 a).mp ha
  have := (partFrom_ok hw ho hq).2.2
  exact h q this this
/-- what is known of a part -/
structure Part (w : Web) (o part : List Nat) : Prop where
  nd : part.Nodup
  lt : ∀ x ∈ part, x < w.many
  ne : part ≠ []
  cn : ∀ x ∈ part, ∀ y, y ∈ part ↔ Cn w o x y
theorem part_of (hw : w.Ok) (ho : ∀ g ∈ o, g < w.gs.length) {part : List Nat} (h : part ∈ partsIn w o) : Part w o part := by
  obtain ⟨q, hq, rfl⟩ := ((partsIn_spec hw ho).1 part).mp h
  obtain ⟨a, b, c⟩ := partFrom_ok hw ho hq
  refine ⟨a, b, List.ne_nil_of_mem c, fun x hx y => ?_⟩
  rw [mem_part hw ho hq]
  have hqx := (mem_part hw ho hq).mp hx
  exact ⟨fun h => hqx.symm.trans h, fun h => hqx.trans h⟩
theorem part_at (hw : w.Ok) (ho : ∀ g ∈ o, g < w.gs.length) {p : Nat} (hp : p < w.many) : ∃ part ∈ partsIn w o, p ∈ part :=
  ⟨partFrom w o p, ((partsIn_spec hw ho).1 _).mpr ⟨p, hp, rfl⟩, (partFrom_ok hw ho hp).2.2⟩
theorem part_uniq (hw : w.Ok) (ho : ∀ g ∈ o, g < w.gs.length) {a b : List Nat} (ha : a ∈ partsIn w o) (hb : b ∈ partsIn w o) {x : Nat} (h1 : x ∈ a) (h2 : x ∈ b) : a = b := by
  obtain ⟨p, hp, rfl⟩ := ((partsIn_spec hw ho).1 a).mp ha
  obtain ⟨q, hq, rfl⟩ := ((partsIn_spec hw ho).1 b).mp hb
  exact part_eq hw ho hp hq (((mem_part hw ho hp).mp h1).trans ((mem_part hw ho hq).mp h2).symm)
theorem Part.fwd {part : List Nat} (h : Part w o part) {g : Nat} (hg : g ∈ o) (hx : (w.g g).1 ∈ part) : (w.g g).2 ∈ part := (h.cn _ hx _).mpr (Cn.guest hg)
theorem Part.bwd {part : List Nat} (h : Part w o part) {g : Nat} (hg : g ∈ o) (hx : (w.g g).2 ∈ part) : (w.g g).1 ∈ part := (h.cn _ hx _).mpr (Cn.guest hg).symm
theorem mem_guests {part : List Nat} {g : Nat} : g ∈ guestsIn w o part ↔ g ∈ o ∧ (w.g g).1 ∈ part := by
  unfold guestsIn
  rw [List.mem_filter, decide_eq_true_eq]
/-! ### the law's parts -/
theorem mark_get {m : List Nat} {k p : Nat} (hp : p < m.length) : (markStep w m k).getD p 0 = if m.getD p 0 = m.getD (w.g k).2 0 then m.getD (w.g k).1 0 else m.getD p 0 := by
  unfold markStep
  rw [List.getD_eq_getElem?_getD, List.getElem?_map, List.getElem?_eq_getElem hp]
  have : m.getD p 0 = m[p] := by rw [List.getD_eq_getElem?_getD, List.getElem?_eq_getElem hp] <;> rfl
  rw [this] <;> rfl
theorem marks_inv (hw : w.Ok) : ∀ (rest pre m : List Nat), (∀ g ∈ rest, g < w.gs.length) → (∀ g ∈ pre, g < w.gs.length) → m.length = w.many → (∀ p q, p < w.many → q < w.many → (m.getD p 0 = m.getD q 0 ↔ Cn w pre p q)) →
    ∀ p q, p < w.many → q < w.many → ((rest.foldl (markStep w) m).getD p 0 = (rest.foldl (markStep w) m).getD q 0 ↔ Cn w (pre ++ rest) p q)
  | [], pre, m, _, _, hm, h => by simpa using h
  | k :: rest, pre, m, hr, hpre, hm, h => by
    have hk := hr k (by simp)
    obtain ⟨g1, g2, g3⟩ := g_ok hw hk
    have e : pre ++ k :: rest = (pre ++ [k]) ++ rest := by simp
    rw [List.foldl_cons, e]
    have hlen : (markStep w m k).length = w.many := by unfold markStep; rw [List.length_map]; exact hm
    refine marks_inv hw rest (pre ++ [k]) _ (fun g hg => hr g (List.mem_cons_of_mem _ hg)) (fun g hg => ?_) hlen fun p q hp hq => ?_
    · rcases List.mem_append.mp hg with h | h
      · exact hpre g h
      · rw [List.mem_singleton.mp h]; exact hk
    · have mono : ∀ {x y}, Cn w pre x y → Cn w (pre ++ [k]) x y := fun {x y} c => c.mono fun g hg => List.mem_append.mpr (.inl hg)
      have join : Cn w (pre ++ [k]) (w.g k).1 (w.g k).2 := Cn.guest (by simp)
      rw [mark_get (by omega), mark_get (by omega)]
      constructor
      · intro he
        by_cases c1 : m.getD p 0 = m.getD (w.g k).2 0
        · rw [if_pos c1] at he
          by_cases c2 : m.getD q 0 = m.getD (w.g k).2 0
          · exact mono ((h p q hp hq).mp (c1.trans c2.symm))
          · rw [if_neg c2] at he
            exact (mono ((h p _ hp g2).mp c1)).trans (join.symm.trans (mono ((h _ q g1 hq).mp he)))
        · rw [if_neg c1] at he
          by_cases c2 : m.getD q 0 = m.getD (w.g k).2 0
          · rw [if_pos c2] at he
            exact (mono ((h p _ hp g1).mp he)).trans (join.trans (mono ((h _ q g2 hq).mp c2.symm)))
          · rw [if_neg c2] at he
            exact mono ((h p q hp hq).mp he)
      · intro c
        let M : Nat → Nat := fun x => if m.getD x 0 = m.getD (w.g k).2 0 then m.getD (w.g k).1 0 else m.getD x 0
        have ends : ∀ g ∈ pre ++ [k], M (w.g g).1 = M (w.g g).2 := fun g hg => by
          rcases List.mem_append.mp hg with hg | hg
          · obtain ⟨l1, l2, _⟩ := g_ok hw (hpre g hg)
            have : m.getD (w.g g).1 0 = m.getD (w.g g).2 0 := (h _ _ l1 l2).mpr (Cn.guest hg)
            show (if m.getD (w.g g).1 0 = _ then _ else _) = (if m.getD (w.g g).2 0 = _ then _ else _)
            rw [this]
          · rw [List.mem_singleton.mp hg]
            show (if m.getD (w.g k).1 0 = m.getD (w.g k).2 0 then m.getD (w.g k).1 0 else m.getD (w.g k).1 0) = (if m.getD (w.g k).2 0 = m.getD (w.g k).2 0 then m.getD (w.g k).1 0 else m.getD (w.g k).2 0)
            rw [if_pos (rfl : m.getD (w.g k).2 0 = m.getD (w.g k).2 0)]
            split <;> rfl
        exact c.closed (S := fun x => M p = M x) (fun g hg hx => hx.trans (ends g hg)) (fun g hg hx => hx.trans (ends g hg).symm) rfl
theorem marks_spec (hw : w.Ok) (ho : ∀ g ∈ o, g < w.gs.length) {p q : Nat} (hp : p < w.many) (hq : q < w.many) : (lawMarks w o).getD p 0 = (lawMarks w o).getD q 0 ↔ Cn w o p q := by
  have z := marks_inv hw o [] (List.range w.many) ho (by simp) (by simp) (fun p q hp hq => ?_) p q hp hq
  · rw [List.nil_append] at z; exact z
  · have e : ∀ {p}, p < w.many → (List.range w.many).getD p 0 = p := fun {p} hp => by rw [List.getD_eq_getElem?_getD, List.getElem?_range hp] <;> rfl
    rw [e hp, e hq]
    constructor
    · rintro rfl; exact .refl _
    · intro c
      exact c.closed (S := fun x => p = x) (fun g hg => by cases hg) (fun g hg => by cases hg) rfl
theorem marks_len : (lawMarks w o).length = w.many := by unfold lawMarks; rw [mark_len, List.length_range]
theorem raw_class (hw : w.Ok) (ho : ∀ g ∈ o, g < w.gs.length) {q : Nat} (hq : q < w.many) : ((List.range w.many).filter fun p => decide ((lawMarks w o).getD p 0 = (lawMarks w o).getD q 0)) = partFrom w o q := by
  refine asc_extN (List.Pairwise.filter _ List.pairwise_lt_range) (part_asc hw ho hq) fun x => ?_
  rw [List.mem_filter, List.mem_range, decide_eq_true_eq, mem_part hw ho hq]
  constructor
  · rintro ⟨h1, h2⟩; exact ((marks_spec hw ho h1 hq).mp h2).symm
  · intro h
    have hx := (partFrom_ok hw ho hq).2.1 x ((mem_part hw ho hq).mpr h)
    exact ⟨hx, (marks_spec hw ho hx hq).mpr h.symm⟩
theorem mem_kinds {m : List Nat} {x : Nat} : x ∈ lawKinds m ↔ x ∈ m := by
  unfold lawKinds
  rw [mem_puts]
  simp
theorem mem_marks {x : Nat} : x ∈ lawMarks w o ↔ ∃ q, q < w.many ∧ (lawMarks w o).getD q 0 = x := by
  constructor
  · intro h
    obtain ⟨i, hi, e⟩ := List.getElem_of_mem h
    have hi' := hi
    rw [marks_len] at hi'
    exact ⟨i, hi', by rw [List.getD_eq_getElem?_getD, List.getElem?_eq_getElem hi]; exact e⟩
  · rintro ⟨q, hq, rfl⟩
    have hq' : q < (lawMarks w o).length := by rw [marks_len]; exact hq
    rw [List.getD_eq_getElem?_getD, List.getElem?_eq_getElem hq']
    exact List.getElem_mem hq'
theorem mem_raw (hw : w.Ok) (ho : ∀ g ∈ o, g < w.gs.length) {part : List Nat} : part ∈ lawRaw w o ↔ part ∈ partsIn w o := by
  rw [(partsIn_spec hw ho).1]
  unfold lawRaw
  rw [List.mem_map]
  constructor
  · rintro ⟨k, hk, rfl⟩
    obtain ⟨q, hq, rfl⟩ := mem_marks.mp (mem_kinds.mp hk)
    exact ⟨q, hq, raw_class hw ho hq⟩
  · rintro ⟨q, hq, rfl⟩
    exact ⟨_, mem_kinds.mpr (mem_marks.mpr ⟨q, hq, rfl⟩), raw_class hw ho hq⟩
theorem mem_lawParts (hw : w.Ok) (ho : ∀ g ∈ o, g < w.gs.length) {part : List Nat} : part ∈ lawParts w o ↔ part ∈ partsIn w o := by
  unfold lawParts
  rw [(sortL_perm _).mem_iff, mem_raw hw ho]
theorem raw_nodup (hw : w.Ok) (ho : ∀ g ∈ o, g < w.gs.length) : (lawRaw w o).Nodup := by
  unfold lawRaw
  have hk : (lawKinds (lawMarks w o)).Nodup := puts_nodup List.nodup_nil
  have hm : ∀ k ∈ lawKinds (lawMarks w o), ∃ q, q < w.many ∧ (lawMarks w o).getD q 0 = k := fun k h => mem_marks.mp (mem_kinds.mp h)
  generalize lawKinds (lawMarks w o) = ks at hk hm ⊢
  induction ks with
  | nil => exact List.nodup_nil
  | cons k ks ih =>
    rw [List.nodup_cons] at hk
    rw [List.map_cons, List.nodup_cons]
    refine ⟨fun h => ?_, ih hk.2 fun x hx => hm x (List.mem_cons_of_mem _ hx)⟩
    obtain ⟨k', hk', e⟩ := List.mem_map.mp h
    obtain ⟨q, hq, rfl⟩ := hm k (by simp)
    have hqm : q ∈ (List.range w.many).filter fun p => decide ((lawMarks w o).getD p 0 = k') := by
      rw [e]; exact List.mem_filter.mpr ⟨List.mem_range.mpr hq, decide_eq_true rfl⟩
    have := of_decide_eq_true (List.mem_filter.mp hqm).2
    exact hk.1 (this ▸ hk')
theorem perm_parts (hw : w.Ok) (ho : ∀ g ∈ o, g < w.gs.length) : (lawParts w o).Perm (partsIn w o) := by
  have nd : (lawParts w o).Nodup := (sortL_perm _).nodup_iff.mpr (raw_nodup hw ho)
  exact (List.perm_ext_iff_of_nodup nd (partsIn_nodup hw ho)).mpr fun a => mem_lawParts hw ho
theorem partsOk (hw : w.Ok) (ho : ∀ g ∈ o, g < w.gs.length) : PartsOk w o where
  ne := fun p hp => (part_of hw ho ((mem_raw hw ho).mp hp)).ne
  len := by rw [(perm_parts hw ho).length_eq]; exact (partsIn_ok hw ho).1
  size := fun p hp => ((partsIn_ok hw ho).2 p ((mem_lawParts hw ho).mp hp)).2.2.1
end
end K17
end

section
set_option maxRecDepth 100000
set_option maxHeartbeats 4000000
/-! Growing from places; guests seated; counting. -/
namespace K17
open MN DL
/-- guests one after another, each with one end new -/
inductive Grow (w : Web) : List Nat → List Nat → List Nat → Prop
  | nil (K : List Nat) : Grow w K [] K
  | cons {K found K' : List Nat} {g p q : Nat} : (((w.g g).1 = p ∧ (w.g g).2 = q) ∨ ((w.g g).1 = q ∧ (w.g g).2 = p)) → p ∈ K → q ∉ K → Grow w (K ++ [q]) found K' → Grow w K (g :: found) K'
section
variable {w : Web} {o : List Nat}
theorem Grow.app {K found K' : List Nat} (G : Grow w K found K') : ∃ A, K' = K ++ A := by
  induction G with
  | nil => exact ⟨[], by simp⟩
  | cons _ _ _ _ ih => obtain ⟨A, e⟩ := ih; exact ⟨_, by rw [e, List.append_assoc]⟩
theorem Grow.sub {K found K' : List Nat} (G : Grow w K found K') : ∀ x ∈ K, x ∈ K' := fun x hx => by
  obtain ⟨A, rfl⟩ := G.app
  exact List.mem_append.mpr (.inl hx)
theorem grownLoop_grow : ∀ (f : Nat) (K found left : List Nat), left.Nodup → left.length < f → ∃ more K', grownLoop w f K found left = found ++ more ∧ Grow w K more K' ∧ (∀ g ∈ more, g ∈ left) ∧ more.Nodup ∧ ∀ g ∈ left, ((w.g g).1 ∈ K' ↔ (w.g g).2 ∈ K')
  | 0, _, _, _, _, h => by omega
  | f + 1, K, found, left, nd, hl => by
    rw [grownLoop]
    cases hn : nextTo w left K with
    | nil =>
      refine ⟨[], K, by simp, .nil K, by simp, List.nodup_nil, fun g hg => ?_⟩
      have : g ∉ nextTo w left K := by rw [hn]; simp
      unfold nextTo at this
      rw [List.mem_filter] at this
      by_cases h1 : (w.g g).1 ∈ K <;> by_cases h2 : (w.g g).2 ∈ K <;> simp [hg, h1, h2] at this ⊢
    | cons g rest =>
      simp only
      have hgm : g ∈ nextTo w left K := by rw [hn]; simp
      unfold nextTo at hgm
      obtain ⟨hgl, hc⟩ := List.mem_filter.mp hgm
      have nd' : (left.filter fun h => !decide (h = g)).Nodup := nd.filter _
      have hlt : (left.filter fun h => !decide (h = g)).length < left.length := by
        refine Nat.lt_of_le_of_ne (List.length_filter_le _ _) fun e => ?_
        have := List.filter_eq_self.mp (List.filter_sublist.eq_of_length e) g hgl
        simp at this
      have ex : ∃ p q, (((w.g g).1 = p ∧ (w.g g).2 = q) ∨ ((w.g g).1 = q ∧ (w.g g).2 = p)) ∧ p ∈ K ∧ q ∉ K ∧ put (put K (w.g g).1) (w.g g).2 = K ++ [q] := by
        by_cases h1 : (w.g g).1 ∈ K
        · by_cases h2 : (w.g g).2 ∈ K
          · simp [h1, h2] at hc
          · refine ⟨_, _, .inl ⟨rfl, rfl⟩, h1, h2, ?_⟩
            have : put K (w.g g).1 = K := if_pos h1
            rw [this]; exact if_neg h2
        · by_cases h2 : (w.g g).2 ∈ K
          · refine ⟨_, _, .inr ⟨rfl, rfl⟩, h2, h1, ?_⟩
            have : put K (w.g g).1 = K ++ [(w.g g).1] := if_neg h1
            rw [this]; exact if_pos (List.mem_append.mpr (.inl h2))
          · simp [h1, h2] at hc
      obtain ⟨p, q, hj, hp, hq, e⟩ := ex
      obtain ⟨more, K', e1, G, m1, m2, m3⟩ := grownLoop_grow f (K ++ [q]) (found ++ [g]) _ nd' (by omega)
      rw [e, e1]
      have hsub : ∀ x ∈ K ++ [q], x ∈ K' := G.sub
      refine ⟨g :: more, K', by simp, .cons hj hp hq G, fun x hx => ?_, ?_, fun x hx => ?_⟩
      · rcases List.mem_cons.mp hx with rfl | hx
        · exact hgl
        · exact (List.mem_filter.mp (m1 x hx)).1
      · refine List.nodup_cons.mpr ⟨fun h => ?_, m2⟩
        have := (List.mem_filter.mp (m1 g h)).2
        simp at this
      · by_cases hxg : x = g
        · subst hxg
          have a : p ∈ K' := hsub p (List.mem_append.mpr (.inl hp))
          have b : q ∈ K' := hsub q (List.mem_append.mpr (.inr (by simp)))
          rcases hj with ⟨h1, h2⟩ | ⟨h1, h2⟩
          · rw [h1, h2]; exact ⟨fun _ => b, fun _ => a⟩
          · rw [h1, h2]; exact ⟨fun _ => a, fun _ => b⟩
        · exact m3 x (List.mem_filter.mpr ⟨hx, by simp [hxg]⟩)
theorem Grow.len {K found K' : List Nat} (G : Grow w K found K') : K'.length = K.length + found.length := by
  induction G with
  | nil => simp
  | cons _ _ _ _ ih => rw [ih]; simp; omega
theorem Grow.nd {K found K' : List Nat} (G : Grow w K found K') (h : K.Nodup) : K'.Nodup := by
  induction G with
  | nil => exact h
  | @cons K found K' g p q _ _ hq _ ih =>
    refine ih (List.nodup_append.mpr ⟨h, by simp, fun x hx y hy => ?_⟩)
    rw [List.mem_singleton] at hy; subst hy
    exact fun e => hq (e ▸ hx)
theorem Grow.within {P : Nat → Prop} {K found K' : List Nat} (G : Grow w K found K') (hk : ∀ x ∈ K, P x) (hg : ∀ g ∈ found, (P (w.g g).1 ↔ P (w.g g).2)) : ∀ x ∈ K', P x := by
  induction G with
  | nil => exact hk
  | @cons K found K' g p q hj hp hq _ ih =>
    refine ih (fun x hx => ?_) fun g hg' => hg g (List.mem_cons_of_mem _ hg')
    rcases List.mem_append.mp hx with h | h
    · exact hk x h
    · rw [List.mem_singleton.mp h]
      have z := hg g (by simp)
      rcases hj with ⟨h1, h2⟩ | ⟨h1, h2⟩
      · rw [h1, h2] at z; exact z.mp (hk p hp)
      · rw [h1, h2] at z; exact z.mpr (hk p hp)
theorem Grow.cn {K found K' : List Nat} (G : Grow w K found K') (hf : ∀ g ∈ found, g ∈ o) : ∀ x ∈ K', ∃ y ∈ K, Cn w o y x := by
  induction G with
  | nil => exact fun x hx => ⟨x, hx, .refl x⟩
  | @cons K found K' g p q hj hp hq _ ih =>
    intro x hx
    obtain ⟨y, hy, c⟩ := ih (fun g hg => hf g (List.mem_cons_of_mem _ hg)) x hx
    rcases List.mem_append.mp hy with h | h
    · exact ⟨y, h, c⟩
    · rw [List.mem_singleton.mp h] at c
      have z : Cn w o p q := by
        have := Cn.guest (w := w) (hf g (by simp))
        rcases hj with ⟨h1, h2⟩ | ⟨h1, h2⟩
        · rw [h1, h2] at this; exact this
        · rw [h1, h2] at this; exact this.symm
      exact ⟨p, hp, z.trans c⟩
/-! ### seats -/
def runT (w : Web) : List Nat → List Nat → List Nat
  | T, [] => T
  | T, k :: ks => runT w (T ++ (lawSeat w T k).toList) ks
def allS (w : Web) : List Nat → List Nat → Prop
  | _, [] => True
  | T, k :: ks => (lawSeat w T k).isSome = true ∧ allS w (T ++ (lawSeat w T k).toList) ks
theorem runT_app : ∀ (a b T : List Nat), runT w T (a ++ b) = runT w (runT w T a) b
  | [], b, T => rfl
  | k :: a, b, T => by rw [List.cons_append, runT, runT_app a b, runT]
theorem allS_app : ∀ (a b T : List Nat), allS w T (a ++ b) ↔ allS w T a ∧ allS w (runT w T a) b
  | [], b, T => by simp [allS, runT]
  | k :: a, b, T => by rw [List.cons_append, allS, allS_app a b, allS, runT, and_assoc]
def Joins (w : Web) (g p q : Nat) : Prop := ((w.g g).1 = p ∧ (w.g g).2 = q) ∨ ((w.g g).1 = q ∧ (w.g g).2 = p)
theorem Joins.symm {g p q : Nat} (h : Joins w g p q) : Joins w g q p := by
  rcases h with ⟨a, b⟩ | ⟨a, b⟩
  · exact .inr ⟨a, b⟩
  · exact .inl ⟨a, b⟩
theorem seat_near {T : List Nat} {g : Nat} (h : (w.g g).1 ∉ T) : lawSeat w T g = some (w.g g).1 := if_pos h
theorem seat_new {T : List Nat} {g p q : Nat} (h : Joins w g p q) (hp : p ∈ T) (hq : q ∉ T) : lawSeat w T g = some q := by
  rcases h with ⟨a, b⟩ | ⟨a, b⟩
  · unfold lawSeat
    rw [if_neg (by rw [a]; exact fun z => z hp), b, if_pos hq]
  · rw [← a] at hq ⊢
    exact seat_near hq
theorem Grow.seats {K found K' : List Nat} (G : Grow w K found K') : ∀ (T R A : List Nat), K' = K ++ A → K'.Nodup → (∀ x ∈ A, x ∉ T) → (∀ x ∈ K, x ∈ T ∨ x ∈ R) → (∀ g ∈ found, (w.g g).1 ∉ R) → allS w T found ∧ runT w T found = T ++ A := by
  induction G with
  | nil =>
    intro T R A e _ _ _ _
    have : A = [] := by simpa using e
    subst this
    exact ⟨True.intro, by simp [runT]⟩
  | @cons K found K' g p q hj hp hq G ih =>
    intro T R A e nd hA hK hR
    obtain ⟨A', e'⟩ := G.app
    have eA : A = q :: A' := by
      rw [e', List.append_assoc] at e
      exact (List.append_cancel_left e).symm
    subst eA
    have hqT : q ∉ T := hA q (by simp)
    have hs : lawSeat w T g = some q := by
      rcases hK p hp with h | h
      · exact seat_new hj h hqT
      · have hne := hR g (by simp)
        rcases hj with ⟨h1, h2⟩ | ⟨h1, h2⟩
        · rw [h1] at hne; exact absurd h hne
        · rw [seat_near (by rw [h1]; exact hqT), h1]
    have nd2 : (q :: A').Nodup := by
      rw [e] at nd
      exact (List.nodup_append.mp nd).2.1
    rw [allS, runT, hs]
    simp only [Option.isSome_some, Option.toList_some, true_and]
    have z := ih (T ++ [q]) R A' e' nd (fun x hx hT => ?_) (fun x hx => ?_) fun g hg => hR g (List.mem_cons_of_mem _ hg)
    · rw [z.2, List.append_assoc]
      exact ⟨z.1, rfl⟩
    · rcases List.mem_append.mp hT with h | h
      · exact hA x (List.mem_cons_of_mem _ hx) h
      · rw [List.mem_singleton.mp h] at hx
        exact (List.nodup_cons.mp nd2).1 hx
    · rcases List.mem_append.mp hx with h | h
      · rcases hK x h with h | h
        · exact .inl (List.mem_append.mpr (.inl h))
        · exact .inr h
      · exact .inl (List.mem_append.mpr (.inr h))
/-! ### a part is spanned -/
theorem others_nodup (l : List Nat) : (othersIn w l).Nodup := List.nodup_range.filter _
theorem guests_nodup {part : List Nat} (h : o.Nodup) : (guestsIn w o part).Nodup := h.filter _
theorem guests_ends {part : List Nat} (P : Part w o part) {g : Nat} (h : g ∈ guestsIn w o part) : (w.g g).1 ∈ part ∧ (w.g g).2 ∈ part := by
  obtain ⟨h1, h2⟩ := mem_guests.mp h
  exact ⟨h2, P.fwd h1 h2⟩
/-- what no guest of the part crosses, with one of its places, is the part -/
theorem part_span {part K' : List Nat} (P : Part w o part) (hk : ∀ x ∈ K', x ∈ part) (hne : ∃ x, x ∈ K') (hc : ∀ g ∈ guestsIn w o part, ((w.g g).1 ∈ K' ↔ (w.g g).2 ∈ K')) : ∀ x ∈ part, x ∈ K' := fun x hx => by
  obtain ⟨y, hy⟩ := hne
  have c := (P.cn y (hk y hy) x).mp hx
  refine (c.closed (S := fun z => z ∈ K' ∧ z ∈ part) (fun g hg ⟨a, b⟩ => ?_) (fun g hg ⟨a, b⟩ => ?_) ⟨hy, hk y hy⟩).1
  · have hgs : g ∈ guestsIn w o part := mem_guests.mpr ⟨hg, b⟩
    exact ⟨(hc g hgs).mp a, P.fwd hg b⟩
  · have hgs : g ∈ guestsIn w o part := mem_guests.mpr ⟨hg, P.bwd hg b⟩
    exact ⟨(hc g hgs).mpr a, P.bwd hg b⟩
theorem perm_len {a b : List Nat} (ha : a.Nodup) (hb : b.Nodup) (h : ∀ x, x ∈ a ↔ x ∈ b) : a.length = b.length := ((List.perm_ext_iff_of_nodup ha hb).mpr h).length_eq
/-- growing from some places of a part -/
theorem grown_part {part K : List Nat} (ho : o.Nodup) (P : Part w o part) {gs : List Nat} (hgs : gs.Nodup) (hsub : ∀ g ∈ gs, g ∈ guestsIn w o part) (hrest : ∀ g ∈ guestsIn w o part, g ∉ gs → (w.g g).1 ∈ K ∧ (w.g g).2 ∈ K) (hK : K.Nodup) (hKp : ∀ x ∈ K, x ∈ part) (hne : ∃ x, x ∈ K) {first : List Nat} (hfirst : first.foldl put [] = K) :
    ∃ K', Grow w K (grownFrom w gs first) K' ∧ (∀ g ∈ grownFrom w gs first, g ∈ gs) ∧ (grownFrom w gs first).Nodup ∧ K'.Nodup ∧ (∀ x, x ∈ K' ↔ x ∈ part) ∧ K.length + (grownFrom w gs first).length = part.length := by
  obtain ⟨more, K', e, G, m1, m2, m3⟩ := grownLoop_grow (gs.length + 1) (first.foldl put []) [] gs hgs (Nat.lt_succ_self _)
  have eg : grownFrom w gs first = more := by unfold grownFrom; rw [e, List.nil_append]
  rw [hfirst] at G
  rw [eg]
  have hk' : ∀ x ∈ K', x ∈ part := G.within (P := fun x => x ∈ part) hKp fun g hg => by
    obtain ⟨a, b⟩ := guests_ends P (hsub g (m1 g hg))
    exact ⟨fun _ => b, fun _ => a⟩
  obtain ⟨x0, hx0⟩ := hne
  have sp := part_span P hk' ⟨x0, G.sub x0 hx0⟩ fun g hg => by
    by_cases h : g ∈ gs
    · exact m3 g h
    · obtain ⟨a, b⟩ := hrest g hg h
      exact ⟨fun _ => G.sub _ b, fun _ => G.sub _ a⟩
  have nd := G.nd hK
  have hmem : ∀ x, x ∈ K' ↔ x ∈ part := fun x => ⟨hk' x, sp x⟩
  refine ⟨K', G, m1, m2, nd, hmem, ?_⟩
  rw [← G.len]
  exact perm_len nd P.nd hmem
/-- a part has at most one place more than guests -/
theorem part_len (ho : o.Nodup) {part : List Nat} (P : Part w o part) : part.length ≤ (guestsIn w o part).length + 1 := by
  obtain ⟨x0, hx0⟩ := List.exists_mem_of_ne_nil _ P.ne
  obtain ⟨K', G, m1, m2, _, _, e⟩ := grown_part (K := [x0]) ho P (guests_nodup ho) (fun g h => h) (fun g h h' => absurd h h') (by simp) (by simpa using hx0) ⟨x0, by simp⟩ (first := [x0]) rfl
  have := m2.length_le_of_subset (l₂ := guestsIn w o part) fun g hg => m1 g hg
  rw [List.length_singleton] at e
  omega
/-! ### rounds -/
theorem len_filter_not (p : Nat → Bool) : ∀ l : List Nat, (l.filter p).length + (l.filter fun x => !p x).length = l.length
  | [] => rfl
  | a :: l => by
    have ih := len_filter_not p l
    rw [List.filter_cons, List.filter_cons]
    cases p a <;> simp <;> omega
theorem kinds_step {m : List Nat} {k : Nat} (ha : (w.g k).1 < m.length) (hb : (w.g k).2 < m.length) (hne : m.getD (w.g k).1 0 ≠ m.getD (w.g k).2 0) : (lawKinds (markStep w m k)).length + 1 = (lawKinds m).length := by
  have gm : ∀ {p}, p < m.length → m.getD p 0 ∈ m := fun {p} hp => by
    rw [List.getD_eq_getElem?_getD, List.getElem?_eq_getElem hp]; exact List.getElem_mem hp
  have hbm : m.getD (w.g k).2 0 ∈ lawKinds m := mem_kinds.mpr (gm hb)
  have nd : (lawKinds m).Nodup := puts_nodup List.nodup_nil
  have e : (lawKinds (markStep w m k)).length = ((lawKinds m).erase (m.getD (w.g k).2 0)).length := by
    refine perm_len (puts_nodup List.nodup_nil) (nd.erase _) fun x => ?_
    rw [nd.mem_erase_iff, mem_kinds, mem_kinds]
    unfold markStep
    rw [List.mem_map]
    constructor
    · rintro ⟨y, hy, rfl⟩
      by_cases h : y = m.getD (w.g k).2 0
      · rw [if_pos h]; exact ⟨hne, gm ha⟩
      · rw [if_neg h]; exact ⟨h, hy⟩
    · rintro ⟨h1, h2⟩
      exact ⟨x, h2, if_neg h1⟩
  rw [e, List.length_erase_of_mem hbm]
  have : 0 < (lawKinds m).length := List.length_pos_of_mem hbm
  omega
theorem no_round (hw : w.Ok) : ∀ (rest ahead : List Nat), (∀ g ∈ ahead, g < w.gs.length) → (∀ g ∈ rest, g < w.gs.length) → roundLoop w ahead rest = none → (lawKinds (lawMarks w (ahead ++ rest))).length + rest.length = (lawKinds (lawMarks w ahead)).length
  | [], ahead, _, _, _ => by simp
  | g :: rest, ahead, ha, hr, h => by
    rw [roundLoop] at h
    have hg := hr g (by simp)
    obtain ⟨g1, g2, g3⟩ := g_ok hw hg
    split at h
    · cases h
    · rename_i hc
      have ih := no_round hw rest (ahead ++ [g]) (fun x hx => by
        rcases List.mem_append.mp hx with h | h
        · exact ha x h
        · rw [List.mem_singleton.mp h]; exact hg) (fun x hx => hr x (List.mem_cons_of_mem _ hx)) h
      have em : lawMarks w (ahead ++ [g]) = markStep w (lawMarks w ahead) g := by unfold lawMarks; rw [List.foldl_append] <;> rfl
      have hne : (lawMarks w ahead).getD (w.g g).1 0 ≠ (lawMarks w ahead).getD (w.g g).2 0 := fun e => hc ((mem_part hw ha g1).mpr ((marks_spec hw ha g1 g2).mp e))
      have st := kinds_step (w := w) (m := lawMarks w ahead) (k := g) (by rw [marks_len]; exact g1) (by rw [marks_len]; exact g2) hne
      rw [em] at ih
      have e2 : ahead ++ g :: rest = (ahead ++ [g]) ++ rest := by simp
      rw [e2, List.length_cons]
      omega
theorem kinds_range (n : Nat) : (lawKinds (List.range n)).length = n := by
  have := perm_len (puts_nodup (m := List.range n) List.nodup_nil) List.nodup_range fun x => mem_kinds (m := List.range n) (x := x)
  rw [List.length_range] at this
  exact this
theorem rnd_all (hw : w.Ok) (hl : ∀ g ∈ o, g < w.gs.length) (ho : o.Nodup) : Rnd w o := fun part hp ht => by
  cases hr : roundOf w o part with
  | some way => rfl
  | none =>
    have P := part_of hw hl hp
    have hgl : ∀ g ∈ guestsIn w o part, g < w.gs.length := fun g hg => hl g (mem_guests.mp hg).1
    have c := no_round hw (guestsIn w o part) [] (by simp) hgl hr
    rw [List.nil_append] at c
    have c0 : (lawKinds (lawMarks w [])).length = w.many := kinds_range w.many
    rw [c0] at c
    -- places that nothing of the part joins
    obtain ⟨x0, hx0⟩ := List.exists_mem_of_ne_nil _ P.ne
    have out : ∀ x, x ∉ part → ∀ y, Cn w (guestsIn w o part) x y → x = y := fun x hx y cn => by
      refine cn.closed (S := fun y => x = y) (fun g hg e => ?_) (fun g hg e => ?_) rfl
      · exact absurd (e ▸ (guests_ends P hg).1) hx
      · exact absurd (e ▸ (guests_ends P hg).2) hx
    let L := x0 :: (List.range w.many).filter fun x => !decide (x ∈ part)
    have hLlt : ∀ x ∈ L, x < w.many := fun x hx => by
      rcases List.mem_cons.mp hx with rfl | hx
      · exact P.lt _ hx0
      · exact List.mem_range.mp (List.mem_filter.mp hx).1
    have hLnd : (L.map fun x => (lawMarks w (guestsIn w o part)).getD x 0).Nodup := by
      have key : L.Pairwise fun x y => ¬ Cn w (guestsIn w o part) x y := by
        refine List.pairwise_cons.mpr ⟨fun y hy cn => ?_, ?_⟩
        · have hyo : y ∉ part := by have := (List.mem_filter.mp hy).2; simpa using this
          exact hyo (out y hyo x0 cn.symm ▸ hx0)
        · have : ((List.range w.many).filter fun x => !decide (x ∈ part)).Nodup := List.nodup_range.filter _
          refine (List.Pairwise.and_mem.mp this).imp ?_
          rintro x y ⟨hx, hy, hne⟩ cn
          have hxo : x ∉ part := by have := (List.mem_filter.mp hx).2; simpa using this
          exact hne (out x hxo y cn)
      refine List.pairwise_map.mpr ((List.Pairwise.and_mem.mp key).imp ?_)
      rintro x y ⟨hx, hy, h⟩ e
      exact h ((marks_spec hw hgl (hLlt x hx) (hLlt y hy)).mp e)
    have hsub : ∀ x ∈ L.map fun x => (lawMarks w (guestsIn w o part)).getD x 0, x ∈ lawKinds (lawMarks w (guestsIn w o part)) := fun x hx => by
      obtain ⟨y, hy, rfl⟩ := List.mem_map.mp hx
      exact mem_kinds.mpr (mem_marks.mpr ⟨y, hLlt y hy, rfl⟩)
    have len1 := hLnd.length_le_of_subset hsub
    rw [List.length_map] at len1
    have len2 : L.length = ((List.range w.many).filter fun x => !decide (x ∈ part)).length + 1 := rfl
    have len3 := len_filter_not (fun x => decide (x ∈ part)) (List.range w.many)
    rw [List.length_range] at len3
    have len4 : ((List.range w.many).filter fun x => decide (x ∈ part)).length = part.length := perm_len (List.nodup_range.filter _) P.nd fun x => by
      rw [List.mem_filter, List.mem_range, decide_eq_true_eq]
      exact ⟨fun h => h.2, fun h => ⟨P.lt x h, h⟩⟩
    have len5 := part_len ho P
    unfold isTree at ht
    have := of_decide_eq_false ht
    omega
end
end K17
end

section
set_option maxRecDepth 100000
set_option maxHeartbeats 4000000
/-! Rounds: a way is simple, and its guests sit down round it. -/
namespace K17
open MN DL
section
variable {w : Web} {o : List Nat}
/-- a row of guests from place to place -/
def Ch (w : Web) (o : List Nat) : Nat → Way → Nat → Prop
  | a, [], e => a = e
  | a, (g, p) :: r, e => p = a ∧ g ∈ o ∧ ∃ q, Joins w g a q ∧ Ch w o q r e
theorem Ch.snoc : ∀ {row : Way} {a here g q : Nat}, Ch w o a row here → g ∈ o → Joins w g here q → Ch w o a (row ++ [(g, here)]) q
  | [], a, here, g, q, h, hg, hj => by
    have e : a = here := h
    subst e
    exact ⟨rfl, hg, q, hj, rfl⟩
  | (g', p) :: r, a, here, g, q, h, hg, hj => by
    obtain ⟨h1, h2, q', h3, h4⟩ := h
    exact ⟨h1, h2, q', h3, Ch.snoc h4 hg hj⟩
theorem Ch.mono {o' : List Nat} (hm : ∀ g ∈ o, g ∈ o') : ∀ {row : Way} {a e : Nat}, Ch w o a row e → Ch w o' a row e
  | [], a, e, h => h
  | (g, p) :: r, a, e, ⟨h1, h2, q, h3, h4⟩ => ⟨h1, hm _ h2, q, h3, Ch.mono hm h4⟩
theorem Ch.head : ∀ {row : Way} {a e : Nat}, Ch w o a row e → row.map (·.2) ++ [e] = a :: (row.map (·.2) ++ [e]).tail
  | [], a, e, h => by have h' : a = e := h; subst h'; rfl
  | (g, p) :: r, a, e, ⟨h1, _⟩ => by subst h1; rfl
theorem Ch.guests : ∀ {row : Way} {a e : Nat}, Ch w o a row e → ∀ x ∈ row, x.1 ∈ o ∧ ((w.g x.1).1 ∈ row.map (·.2) ++ [e] ∧ (w.g x.1).2 ∈ row.map (·.2) ++ [e])
  | [], a, e, h => fun x hx => nomatch hx
  | (g, p) :: r, a, e, ⟨h1, h2, q, h3, h4⟩ => fun x hx => by
    subst h1
    rcases List.mem_cons.mp hx with rfl | hx
    · have hq : q ∈ ((g, p) :: r).map (·.2) ++ [e] := by
        rw [List.map_cons, List.cons_append, h4.head]; simp
      have hp : p ∈ ((g, p) :: r).map (·.2) ++ [e] := by simp
      refine ⟨h2, ?_⟩
      rcases h3 with ⟨a, b⟩ | ⟨a, b⟩
      · show (w.g g).1 ∈ _ ∧ (w.g g).2 ∈ _
        rw [a, b]; exact ⟨hp, hq⟩
      · show (w.g g).1 ∈ _ ∧ (w.g g).2 ∈ _
        rw [a, b]; exact ⟨hq, hp⟩
    · obtain ⟨a, b, c⟩ := Ch.guests h4 x hx
      exact ⟨a, List.mem_cons_of_mem _ b, List.mem_cons_of_mem _ c⟩
theorem Ch.nd : ∀ {row : Way} {a e : Nat}, Ch w o a row e → (row.map (·.2) ++ [e]).Nodup → (row.map (·.1)).Nodup
  | [], a, e, _, _ => List.nodup_nil
  | (g, p) :: r, a, e, ⟨h1, h2, q, h3, h4⟩, nd => by
    subst h1
    rw [List.map_cons, List.cons_append] at nd
    obtain ⟨n1, n2⟩ := List.nodup_cons.mp nd
    rw [List.map_cons, List.nodup_cons]
    refine ⟨fun h => ?_, Ch.nd h4 n2⟩
    obtain ⟨x, hx, e⟩ := List.mem_map.mp h
    obtain ⟨_, c1, c2⟩ := h4.guests x hx
    have e' : x.1 = g := e
    rw [e'] at c1 c2
    rcases h3 with ⟨a, b⟩ | ⟨a, b⟩
    · rw [a] at c1; exact n1 c1
    · rw [b] at c2; exact n1 c2
theorem Ch.cn : ∀ {row : Way} {a e : Nat}, Ch w o a row e → ∀ {o' : List Nat}, (∀ x ∈ row, x.1 ∈ o') → ∀ p ∈ row.map (·.2) ++ [e], Cn w o' a p
  | [], a, e, h, o', _ => fun p hp => by
    have h' : a = e := h
    subst h'
    rw [List.mem_singleton.mp hp]; exact .refl _
  | (g, p) :: r, a, e, ⟨h1, h2, q, h3, h4⟩, o', ho => fun x hx => by
    subst h1
    rcases List.mem_cons.mp hx with rfl | hx
    · exact .refl _
    · have z := Ch.cn h4 (fun y hy => ho y (List.mem_cons_of_mem _ hy)) x hx
      have : Cn w o' p q := by
        have := Cn.guest (w := w) (ho (g, p) (by simp))
        rcases h3 with ⟨a, b⟩ | ⟨a, b⟩
        · have a' : (w.g (g, p).1).1 = p := a
          have b' : (w.g (g, p).1).2 = q := b
          rw [a', b'] at this; exact this
        · have a' : (w.g (g, p).1).1 = q := a
          have b' : (w.g (g, p).1).2 = p := b
          rw [a', b'] at this; exact this.symm
      exact this.trans z
/-! ### the search -/
structure Row (w : Web) (o : List Nat) (a : Nat) (seen : List Nat) (r : Way × Nat) : Prop where
  ch : Ch w o a r.1 r.2
  sn : ∀ x ∈ r.1.map (·.2) ++ [r.2], x ∈ seen
  nd : (r.1.map (·.2) ++ [r.2]).Nodup
theorem Row.mono {a : Nat} {seen seen' : List Nat} {r : Way × Nat} (h : Row w o a seen r) (hs : ∀ x ∈ seen, x ∈ seen') : Row w o a seen' r := ⟨h.ch, fun x hx => hs x (h.sn x hx), h.nd⟩
theorem push_all {a here : Nat} {row : Way} {bar : Nat} (hb : bar ∉ o) : ∀ (es : List (Nat × Nat)) (s : List (Way × Nat) × List Nat), (∀ e ∈ es, e.1 ∈ o ∧ Joins w e.1 here e.2 ∧ e.2 < w.many) → Row w o a s.2 (row, here) → (∀ r ∈ s.1, Row w o a s.2 r) → s.2.Nodup → (∀ x ∈ s.2, x < w.many) →
    let s' := es.foldl (pushStep bar here row) s
    (∀ r ∈ s'.1, Row w o a s'.2 r) ∧ s'.2.Nodup ∧ (∀ x ∈ s'.2, x < w.many) ∧ (∀ x ∈ s.2, x ∈ s'.2) ∧ (∀ r ∈ s.1, r ∈ s'.1) ∧ (∀ e ∈ es, e.2 ∈ s'.2) ∧ (∀ x ∈ s'.2, x ∈ s.2 ∨ ∃ r ∈ s'.1, r.2 = x) ∧ s'.1.length + s.2.length = s.1.length + s'.2.length
  | [], s, _, _, hr, hn, hl => ⟨hr, hn, hl, fun _ h => h, fun _ h => h, fun _ h => (nomatch h), fun x h => .inl h, rfl⟩
  | e :: es, s, he, hrow, hr, hn, hl => by
    obtain ⟨e1, e2, e3⟩ := he e (by simp)
    have hes := fun x hx => he x (List.mem_cons_of_mem e hx)
    rw [List.foldl_cons]
    by_cases hm : e.2 ∈ s.2
    · have es' : pushStep bar here row s e = s := by
        unfold pushStep; exact if_neg fun h => h.2 hm
      rw [es']
      obtain ⟨c1, c2, c3, c4, c5, c6, c7, c8⟩ := push_all hb es s hes hrow hr hn hl
      refine ⟨c1, c2, c3, c4, c5, fun x hx => ?_, c7, c8⟩
      rcases List.mem_cons.mp hx with rfl | hx
      · exact c4 _ hm
      · exact c6 x hx
    · have es' : pushStep bar here row s e = (s.1 ++ [(row ++ [(e.1, here)], e.2)], s.2 ++ [e.2]) := by
        unfold pushStep; exact if_pos ⟨fun h => hb (h ▸ e1), hm⟩
      rw [es']
      have grow : ∀ x ∈ s.2, x ∈ s.2 ++ [e.2] := fun x hx => List.mem_append.mpr (.inl hx)
      have hnew : Row w o a (s.2 ++ [e.2]) (row ++ [(e.1, here)], e.2) := by
        refine ⟨hrow.ch.snoc e1 e2, fun x hx => ?_, ?_⟩
        · rw [List.map_append] at hx
          rcases List.mem_append.mp hx with hx | hx
          · exact grow x (hrow.sn x hx)
          · exact List.mem_append.mpr (.inr hx)
        · rw [List.map_append]
          refine List.nodup_append.mpr ⟨hrow.nd, by simp, fun x hx y hy => ?_⟩
          rw [List.mem_singleton] at hy
          subst hy
          exact fun h => hm (h ▸ hrow.sn x hx)
      obtain ⟨c1, c2, c3, c4, c5, c6, c7, c8⟩ := push_all hb es (s.1 ++ [(row ++ [(e.1, here)], e.2)], s.2 ++ [e.2]) hes (hrow.mono grow) (fun r hr' => by
        rcases List.mem_append.mp hr' with h | h
        · exact (hr r h).mono grow
        · rw [List.mem_singleton.mp h]; exact hnew) (List.nodup_append.mpr ⟨hn, by simp, fun x hx y hy => by
          rw [List.mem_singleton] at hy
          subst hy
          exact fun h => hm (h ▸ hx)⟩) (fun x hx => by
        rcases List.mem_append.mp hx with h | h
        · exact hl x h
        · rw [List.mem_singleton.mp h]; exact e3)
      refine ⟨c1, c2, c3, fun x hx => c4 x (grow x hx), fun r hr' => c5 r (List.mem_append.mpr (.inl hr')), fun x hx => ?_, fun x hx => ?_, ?_⟩
      · rcases List.mem_cons.mp hx with rfl | hx
        · exact c4 _ (List.mem_append.mpr (.inr (by simp)))
        · exact c6 x hx
      · rcases c7 x hx with h | h
        · rcases List.mem_append.mp h with h | h
          · exact .inl h
          · refine .inr ⟨_, c5 _ (List.mem_append.mpr (.inr (List.mem_singleton.mpr rfl))), (List.mem_singleton.mp h).symm⟩
        · exact .inr h
      · simp only [List.length_append, List.length_singleton] at c8 ⊢
        omega
theorem getLast_split : ∀ {α : Type} {l : List α} {x : α}, l.getLast? = some x → l = l.dropLast ++ [x] := fun {α l x} h => by
  have hne : l ≠ [] := fun e => by rw [e] at h; cases h
  rw [List.getLast?_eq_some_getLast hne] at h
  rw [← Option.some.inj h]
  exact (List.dropLast_concat_getLast hne).symm
theorem wayLoop_ok (hw : w.Ok) (ho : ∀ g ∈ o, g < w.gs.length) {a goal bar : Nat} (hb : bar ∉ o) (hreach : Cn w o a goal) : ∀ (f : Nat) (rows : List (Way × Nat)) (seen : List Nat), (∀ r ∈ rows, Row w o a seen r) → seen.Nodup → (∀ x ∈ seen, x < w.many) → a ∈ seen → (∀ p ∈ seen, (∃ r ∈ rows, r.2 = p) ∨ (p ≠ goal ∧ ∀ e ∈ adj w o p, e.2 ∈ seen)) → f + seen.length = w.many + 1 + rows.length →
    Ch w o a (wayLoop (adj w o) goal bar f rows seen) goal ∧ ((wayLoop (adj w o) goal bar f rows seen).map (·.2) ++ [goal]).Nodup
  | 0, rows, seen, hr, hn, hl, ha, hc, hf => by have := len_of_lt hn hl; omega
  | f + 1, rows, seen, hr, hn, hl, ha, hc, hf => by
    rw [wayLoop]
    cases hlast : rows.getLast? with
    | none =>
      exfalso
      have e : rows = [] := by
        cases rows with
        | nil => rfl
        | cons x l => rw [List.getLast?_eq_some_getLast (by simp)] at hlast; cases hlast
      subst e
      have cl : ∀ p ∈ seen, p ≠ goal ∧ ∀ e ∈ adj w o p, e.2 ∈ seen := fun p hp => by
        rcases hc p hp with ⟨r, hr, _⟩ | h
        · cases hr
        · exact h
      have : goal ∈ seen := hreach.closed (S := fun x => x ∈ seen) (fun g hg hx => (cl _ hx).2 (g, (w.g g).2) (adj_of hg).1) (fun g hg hx => (cl _ hx).2 (g, (w.g g).1) (adj_of hg).2) ha
      exact (cl goal this).1 rfl
    | some x =>
      obtain ⟨row, here⟩ := x
      have esp := getLast_split hlast
      have hx : (row, here) ∈ rows := by rw [esp]; simp
      have hxr := hr _ hx
      simp only
      split
      · rename_i hg
        have hg' : here = goal := hg
        rw [← hg']
        exact ⟨hxr.ch, hxr.nd⟩
      · rename_i hg
        obtain ⟨c1, c2, c3, c4, c5, c6, c7, c8⟩ := push_all (bar := bar) hb (adj w o here) (rows.dropLast, seen) (fun e he => by
          obtain ⟨h1, h2⟩ := adj_mem he
          refine ⟨h1, ?_, (adj_lt hw ho he).1⟩
          rcases h2 with ⟨a, b⟩ | ⟨a, b⟩
          · exact .inl ⟨a, b⟩
          · exact .inr ⟨b, a⟩) hxr (fun r h => hr r (List.dropLast_subset _ h)) hn hl
        refine wayLoop_ok hw ho hb hreach f _ _ c1 c2 c3 (c4 a ha) (fun p hp => ?_) ?_
        · rcases c7 p hp with h | h
          · rcases hc p h with ⟨r, hr', e⟩ | ⟨h1, h2⟩
            · rw [esp] at hr'
              rcases List.mem_append.mp hr' with h | h
              · exact .inl ⟨r, c5 r h, e⟩
              · rw [List.mem_singleton.mp h] at e
                have e' : here = p := e
                subst e'
                exact .inr ⟨hg, c6⟩
            · exact .inr ⟨h1, fun e he => c4 _ (h2 e he)⟩
          · exact .inl h
        · have : rows.length = rows.dropLast.length + 1 := by
            conv => lhs; rw [esp]
            rw [List.length_append] <;> rfl
          have h8 : _ + seen.length = rows.dropLast.length + _ := c8
          omega
/-- a round: guests from a place and back to it -/
structure Round (w : Web) (o : List Nat) (a : Nat) (way : Way) : Prop where
  ch : Ch w o a way a
  ne : way ≠ []
  pl : (way.map (·.2)).Nodup
  gd : (way.map (·.1)).Nodup
theorem roundLoop_round (hw : w.Ok) : ∀ (rest ahead : List Nat) (way : Way), (∀ g ∈ ahead, g < w.gs.length) → (∀ g ∈ rest, g < w.gs.length) → (ahead ++ rest).Nodup → roundLoop w ahead rest = some way → ∃ a, Round w (ahead ++ rest) a way
  | [], ahead, way, _, _, _, h => by cases h
  | g :: rest, ahead, way, ha, hr, nd, h => by
    rw [roundLoop] at h
    have hg := hr g (by simp)
    obtain ⟨g1, g2, g3⟩ := g_ok hw hg
    have hga : g ∉ ahead := fun hm => (List.nodup_append.mp nd).2.2 g hm g (by simp) rfl
    split at h
    · rename_i hc
      have hcn := (mem_part hw ha g1).mp hc
      obtain ⟨c1, c2⟩ := wayLoop_ok hw ha (bar := g) hga hcn (w.many + 1) [([], (w.g g).1)] [(w.g g).1] (fun r hr => by
        rw [List.mem_singleton.mp hr]
        exact ⟨rfl, fun x hx => hx, by simp⟩) (by simp) (fun x hx => by rw [List.mem_singleton.mp hx]; exact g1) (by simp) (fun p hp => .inl ⟨_, List.mem_singleton.mpr rfl, (List.mem_singleton.mp hp).symm⟩) rfl
      have e := (Option.some.inj h).symm
      have ew : wayFrom w ahead (w.g g).1 (w.g g).2 g = wayLoop (adj w ahead) (w.g g).2 g (w.many + 1) [([], (w.g g).1)] [(w.g g).1] := rfl
      rw [← ew] at c1 c2
      generalize wayFrom w ahead (w.g g).1 (w.g g).2 g = row at e c1 c2
      subst e
      refine ⟨(w.g g).1, ⟨Ch.snoc (c1.mono fun x hx => List.mem_append.mpr (.inl hx)) (List.mem_append.mpr (.inr (by simp))) (.inr ⟨rfl, rfl⟩), by simp, ?_, ?_⟩⟩
      · rw [List.map_append]; exact c2
      · rw [List.map_append]
        refine List.nodup_append.mpr ⟨c1.nd c2, by simp, fun x hx y hy => ?_⟩
        have hy' : y = g := List.mem_singleton.mp hy
        subst hy'
        obtain ⟨z, hz, e⟩ := List.mem_map.mp hx
        exact fun h => hga (h ▸ e ▸ (c1.guests z hz).1)
    · have e : ahead ++ g :: rest = (ahead ++ [g]) ++ rest := by simp
      rw [e] at nd ⊢
      exact roundLoop_round hw rest (ahead ++ [g]) way (fun x hx => by
        rcases List.mem_append.mp hx with h | h
        · exact ha x h
        · rw [List.mem_singleton.mp h]; exact hg) (fun x hx => hr x (List.mem_cons_of_mem _ hx)) nd h
/-! ### guests of a round, seated -/
theorem fwd_seats : ∀ (r : Way) (q e : Nat) (T : List Nat), Ch w o q r e → q ∈ T → (r.map (·.2) ++ [e]).tail.Nodup → (∀ x ∈ (r.map (·.2) ++ [e]).tail, x ∉ T) → allS w T (r.map (·.1)) ∧ runT w T (r.map (·.1)) = T ++ (r.map (·.2) ++ [e]).tail
  | [], q, e, T, _, _, _, _ => ⟨True.intro, by simp [runT]⟩
  | (g, p) :: r, q, e, T, ⟨h1, h2, q', h3, h4⟩, hq, nd, hd => by
    have ht : ((((g, p) :: r).map (·.2)) ++ [e]).tail = q' :: (r.map (·.2) ++ [e]).tail := by
      show r.map (·.2) ++ [e] = _
      exact h4.head
    rw [ht] at nd hd ⊢
    obtain ⟨n1, n2⟩ := List.nodup_cons.mp nd
    have hs : lawSeat w T g = some q' := seat_new h3 hq (hd q' (by simp))
    rw [List.map_cons, allS, runT]
    have hs2 : (T ++ (lawSeat w T (g, p).1).toList) = T ++ [q'] := by
      show (T ++ (lawSeat w T g).toList) = _
      rw [hs]; rfl
    rw [hs2]
    obtain ⟨i1, i2⟩ := fwd_seats r q' e (T ++ [q']) h4 (by simp) n2 fun x hx hT => by
      rcases List.mem_append.mp hT with h | h
      · exact hd x (List.mem_cons_of_mem _ hx) h
      · rw [List.mem_singleton.mp h] at hx; exact n1 hx
    rw [i2, List.append_assoc]
    exact ⟨⟨by rw [hs]; rfl, i1⟩, rfl⟩
theorem bwd_seats : ∀ (r : Way) (q e : Nat) (T : List Nat), Ch w o q r e → e ∈ T → (r.map (·.2)).Nodup → (∀ x ∈ r.map (·.2), x ∉ T) → allS w T (r.reverse.map (·.1)) ∧ runT w T (r.reverse.map (·.1)) = T ++ (r.map (·.2)).reverse
  | [], q, e, T, _, _, _, _ => ⟨True.intro, by simp [runT]⟩
  | (g, p) :: r, q, e, T, ⟨h1, h2, q', h3, h4⟩, he, nd, hd => by
    subst h1
    rw [List.map_cons] at nd hd
    obtain ⟨n1, n2⟩ := List.nodup_cons.mp nd
    obtain ⟨i1, i2⟩ := bwd_seats r q' e T h4 he n2 fun x hx => hd x (List.mem_cons_of_mem _ hx)
    rw [List.reverse_cons, List.map_append, allS_app, runT_app, i2]
    have hq' : q' ∈ T ++ (r.map (·.2)).reverse := by
      have : q' ∈ r.map (·.2) ++ [e] := by rw [h4.head]; simp
      rcases List.mem_append.mp this with h | h
      · exact List.mem_append.mpr (.inr (List.mem_reverse.mpr h))
      · rw [List.mem_singleton.mp h]; exact List.mem_append.mpr (.inl he)
    have hp : p ∉ T ++ (r.map (·.2)).reverse := fun h => by
      rcases List.mem_append.mp h with h | h
      · exact hd p (by simp) h
      · exact n1 (List.mem_reverse.mp h)
    have hs : lawSeat w (T ++ (r.map (·.2)).reverse) g = some p := seat_new h3.symm hq' hp
    refine ⟨⟨i1, ?_, True.intro⟩, ?_⟩
    · show (lawSeat w _ g).isSome = true
      rw [hs]; rfl
    · show _ ++ (lawSeat w _ g).toList = _
      rw [hs, List.map_cons, List.reverse_cons, List.append_assoc] <;> rfl
theorem round_seats {a : Nat} {way : Way} (h : Round w o a way) (T : List Nat) (hT : ∀ x ∈ way.map (·.2), x ∉ T) : allS w T (seatedRound w way) ∧ (∃ A, runT w T (seatedRound w way) = T ++ A ∧ A.Perm (way.map (·.2))) ∧ (seatedRound w way).Perm (way.map (·.1)) := by
  obtain ⟨ch, ne, pl, gd⟩ := h
  cases way with
  | nil => exact absurd rfl ne
  | cons x r =>
    obtain ⟨g, p⟩ := x
    obtain ⟨h1, h2, q, h3, h4⟩ := ch
    subst h1
    rw [List.map_cons] at pl hT
    obtain ⟨n1, n2⟩ := List.nodup_cons.mp pl
    have hpT : p ∉ T := hT p (by simp)
    unfold seatedRound
    simp only
    split
    · rename_i hn
      have hs : lawSeat w T g = some p := by rw [← hn] at hpT ⊢; exact seat_near hpT
      obtain ⟨i1, i2⟩ := bwd_seats r q p (T ++ [p]) h4 (by simp) n2 fun x hx hx' => by
        rcases List.mem_append.mp hx' with h | h
        · exact hT x (List.mem_cons_of_mem _ hx) h
        · rw [List.mem_singleton.mp h] at hx; exact n1 hx
      rw [allS, runT, hs]
      refine ⟨⟨rfl, i1⟩, ⟨p :: (r.map (·.2)).reverse, ?_, ?_⟩, ?_⟩
      · show runT w (T ++ [p]) _ = _
        rw [i2, List.append_assoc]; rfl
      · rw [List.map_cons]
        exact (List.reverse_perm _).cons p
      · rw [List.map_cons, List.map_reverse]
        exact (List.reverse_perm _).cons g
    · rename_i hn
      have hj : (w.g g).1 = q ∧ (w.g g).2 = p := by
        rcases h3 with ⟨a, b⟩ | h3
        · exact absurd a hn
        · exact h3
      have hh : r.map (·.2) ++ [p] = q :: (r.map (·.2) ++ [p]).tail := h4.head
      have ndp : (r.map (·.2) ++ [p]).Nodup := List.nodup_append.mpr ⟨n2, by simp, fun x hx y hy => by
        rw [List.mem_singleton] at hy
        subst hy
        exact fun e => n1 (e ▸ hx)⟩
      have hTp : ∀ x ∈ r.map (·.2) ++ [p], x ∉ T := fun x hx => by
        rcases List.mem_append.mp hx with h | h
        · exact hT x (List.mem_cons_of_mem _ h)
        · rw [List.mem_singleton.mp h]; exact hpT
      have hpp : (r.map (·.2) ++ [p]).Perm (p :: r.map (·.2)) := List.perm_append_comm
      generalize ht : (r.map (·.2) ++ [p]).tail = tl at hh
      rw [hh] at ndp hTp hpp
      obtain ⟨m1, m2⟩ := List.nodup_cons.mp ndp
      have hs : lawSeat w T g = some q := by
        have := hTp q (by simp)
        rw [← hj.1] at this ⊢; exact seat_near this
      obtain ⟨i1, i2⟩ := fwd_seats r q p (T ++ [q]) h4 (by simp) (by rw [ht]; exact m2) (by
        rw [ht]
        intro x hx hx'
        rcases List.mem_append.mp hx' with h | h
        · exact hTp x (List.mem_cons_of_mem _ hx) h
        · rw [List.mem_singleton.mp h] at hx; exact m1 hx)
      rw [List.map_cons, allS, runT]
      have hs2 : (T ++ (lawSeat w T (g, p).1).toList) = T ++ [q] := by
        show (T ++ (lawSeat w T g).toList) = _
        rw [hs]; rfl
      rw [hs2]
      refine ⟨⟨by show (lawSeat w T g).isSome = true; rw [hs]; rfl, i1⟩, ⟨q :: tl, ?_, hpp⟩, List.Perm.refl _⟩
      rw [i2, ht, List.append_assoc]; rfl
end
end K17
end

section
set_option maxRecDepth 100000
set_option maxHeartbeats 4000000
/-! What is kept in a part, seated; an order right for a lot. -/
namespace K17
open MN DL
section
variable {w : Web} {o : List Nat}
theorem puts_fresh : ∀ (m row : List Nat), (row ++ m).Nodup → m.foldl put row = row ++ m
  | [], row, _ => by simp
  | a :: m, row, h => by
    have ha : a ∉ row := fun hx => (List.nodup_append.mp h).2.2 a hx a (by simp) rfl
    have e : put row a = row ++ [a] := if_neg ha
    have e2 : row ++ a :: m = (row ++ [a]) ++ m := by simp
    rw [List.foldl_cons, e, e2]
    rw [e2] at h
    exact puts_fresh m _ h
/-- what `keptIn` keeps of a part that is no tree -/
theorem kept_round (hw : w.Ok) (hl : ∀ g ∈ o, g < w.gs.length) (ho : o.Nodup) {part : List Nat} (hp : part ∈ partsIn w o) (ht : isTree w o part = false) (fr : List Nat) :
    (keptIn w o part fr).Nodup ∧ (∀ g ∈ keptIn w o part fr, g ∈ guestsIn w o part) ∧ (keptIn w o part fr).length = part.length ∧ (∀ x ∈ part, ∀ y ∈ part, Cn w (keptIn w o part fr) x y) ∧
    ∀ T : List Nat, (∀ x ∈ part, x ∉ T) → allS w T (keptIn w o part fr) ∧ ∃ B, runT w T (keptIn w o part fr) = T ++ B ∧ ∀ x, x ∈ B ↔ x ∈ part := by
  have P := part_of hw hl hp
  obtain ⟨way, hway⟩ := Option.isSome_iff_exists.mp (rnd_all hw hl ho part hp ht)
  have hgl : ∀ g ∈ guestsIn w o part, g < w.gs.length := fun g hg => hl g (mem_guests.mp hg).1
  obtain ⟨a, R⟩ := roundLoop_round hw (guestsIn w o part) [] way (by simp) hgl (by rw [List.nil_append]; exact guests_nodup ho) hway
  rw [List.nil_append] at R
  have ek : keptIn w o part fr = seatedRound w way ++ grownFrom w ((guestsIn w o part).filter fun g => !decide (g ∈ seatedRound w way)) (way.map (·.2)) := by
    unfold keptIn
    rw [ht, hway]; rfl
  obtain ⟨s1, ⟨A1, s2, s3⟩, s4⟩ := round_seats R [] (by simp)
  have hsg : ∀ g, g ∈ seatedRound w way ↔ g ∈ way.map (·.1) := fun g => s4.mem_iff
  have snd : (seatedRound w way).Nodup := s4.nodup_iff.mpr R.gd
  have apl : ∀ x, x ∈ way.map (·.2) ++ [a] → x ∈ way.map (·.2) := fun x hx => by
    rcases List.mem_append.mp hx with h | h
    · exact h
    · rw [List.mem_singleton.mp h]
      have := R.ch.head
      cases hwy : way with
      | nil => exact absurd hwy R.ne
      | cons y r =>
        have c := R.ch
        rw [hwy] at c
        rw [← c.1]; simp
  have hends : ∀ g ∈ seatedRound w way, (w.g g).1 ∈ way.map (·.2) ∧ (w.g g).2 ∈ way.map (·.2) := fun g hg => by
    obtain ⟨x, hx, e⟩ := List.mem_map.mp ((hsg g).mp hg)
    subst e
    obtain ⟨_, c1, c2⟩ := R.ch.guests x hx
    exact ⟨apl _ c1, apl _ c2⟩
  have hseatg : ∀ g ∈ seatedRound w way, g ∈ guestsIn w o part := fun g hg => by
    obtain ⟨x, hx, e⟩ := List.mem_map.mp ((hsg g).mp hg)
    subst e
    exact (R.ch.guests x hx).1
  have hplp : ∀ x ∈ way.map (·.2), x ∈ part := fun x hx => by
    obtain ⟨y, hy, e⟩ := List.mem_map.mp hx
    cases hwy : way with
    | nil => exact absurd hwy R.ne
    | cons z r =>
      have c := R.ch
      have hz : z.1 ∈ guestsIn w o part := (c.guests z (by rw [hwy]; simp)).1
      have hap : a ∈ part := by
        rw [hwy] at c
        obtain ⟨_, _, q, hj, _⟩ := c
        obtain ⟨e1, e2⟩ := guests_ends P hz
        rcases hj with ⟨u, v⟩ | ⟨u, v⟩
        · rw [u] at e1; exact e1
        · rw [v] at e2; exact e2
      have cn := R.ch.cn (o' := o) (fun x hx => (mem_guests.mp (R.ch.guests x hx).1).1) x (List.mem_append.mpr (.inl hx))
      exact (P.cn a hap x).mpr cn
  have hne : ∃ x, x ∈ way.map (·.2) := by
    cases hwy : way with
    | nil => exact absurd hwy R.ne
    | cons z r => exact ⟨z.2, by simp⟩
  obtain ⟨K', G, g1, g2, g3, g4, g5⟩ := grown_part (K := way.map (·.2)) ho P (gs := (guestsIn w o part).filter fun g => !decide (g ∈ seatedRound w way)) ((guests_nodup ho).filter _) (fun g hg => (List.mem_filter.mp hg).1) (fun g hg hn => hends g (by
    by_cases h : g ∈ seatedRound w way
    · exact h
    · exact absurd (List.mem_filter.mpr ⟨hg, by simp [h]⟩) hn)) R.pl hplp hne (first := way.map (·.2)) (by
      have := puts_fresh (way.map (·.2)) [] (by rw [List.nil_append]; exact R.pl)
      rw [this, List.nil_append])
  rw [ek]
  generalize hgr : grownFrom w ((guestsIn w o part).filter fun g => !decide (g ∈ seatedRound w way)) (way.map (·.2)) = gr at G g1 g2 g5
  have hgrg : ∀ g ∈ gr, g ∈ guestsIn w o part ∧ g ∉ seatedRound w way := fun g hg => by
    obtain ⟨h1, h2⟩ := List.mem_filter.mp (g1 g hg)
    exact ⟨h1, by simpa using h2⟩
  refine ⟨List.nodup_append.mpr ⟨snd, g2, fun x hx y hy e => (hgrg y hy).2 (e ▸ hx)⟩, fun g hg => ?_, ?_, fun x hx y hy => ?_, fun T hT => ?_⟩
  · rcases List.mem_append.mp hg with h | h
    · exact hseatg g h
    · exact (hgrg g h).1
  · rw [List.length_append, s4.length_eq, List.length_map]
    rw [List.length_map] at g5
    exact g5
  · have key : ∀ x ∈ part, Cn w (seatedRound w way ++ gr) a x := fun x hx => by
      obtain ⟨y, hy, c⟩ := G.cn (o := seatedRound w way ++ gr) (fun g hg => List.mem_append.mpr (.inr hg)) x ((g4 x).mpr hx)
      have c2 := R.ch.cn (o' := seatedRound w way ++ gr) (fun x hx => List.mem_append.mpr (.inl ((hsg _).mpr (List.mem_map.mpr ⟨x, hx, rfl⟩)))) y (List.mem_append.mpr (.inl hy))
      exact c2.trans c
    exact (key x hx).symm.trans (key y hy)
  · obtain ⟨t1, ⟨A, t2, t3⟩, _⟩ := round_seats R T fun x hx => hT x (hplp x hx)
    obtain ⟨A', e'⟩ := G.app
    have nd := g3
    rw [e'] at nd
    obtain ⟨u1, u2⟩ := G.seats (T ++ A) [] A' e' g3 (fun x hx hx' => by
      rcases List.mem_append.mp hx' with h | h
      · exact hT x ((g4 x).mp (by rw [e']; exact List.mem_append.mpr (.inr hx))) h
      · exact (List.nodup_append.mp nd).2.2 x (t3.mem_iff.mp h) x hx rfl) (fun x hx => .inl (List.mem_append.mpr (.inr (t3.mem_iff.mpr hx)))) (fun g hg => by simp)
    rw [allS_app, runT_app, t2, u2, List.append_assoc]
    refine ⟨⟨t1, u1⟩, A ++ A', rfl, fun x => ?_⟩
    rw [← g4 x, e', List.mem_append, List.mem_append, t3.mem_iff]
/-- what it keeps of a tree, beside one free place -/
theorem kept_tree (hw : w.Ok) (hl : ∀ g ∈ o, g < w.gs.length) (ho : o.Nodup) {part : List Nat} (hp : part ∈ partsIn w o) (ht : isTree w o part = true) {fr : List Nat} {p : Nat} (hf : part.filter (fun x => decide (x ∈ fr)) = [p]) (hun : p ∈ unwantedIn w) :
    (keptIn w o part fr).Nodup ∧ (∀ g ∈ keptIn w o part fr, g ∈ guestsIn w o part) ∧ (keptIn w o part fr).length + 1 = part.length ∧
    ∀ T : List Nat, (∀ x ∈ part, x ∉ T) → allS w T (keptIn w o part fr) ∧ ∃ B, runT w T (keptIn w o part fr) = T ++ B ∧ ∀ x, x ∈ B ↔ (x ∈ part ∧ x ≠ p) := by
  have P := part_of hw hl hp
  have hpp : p ∈ part := (List.mem_filter.mp (by rw [hf]; simp : p ∈ part.filter fun x => decide (x ∈ fr))).1
  have ek : keptIn w o part fr = grownFrom w (guestsIn w o part) [p] := by
    unfold keptIn
    rw [ht, hf]; rfl
  obtain ⟨K', G, g1, g2, g3, g4, g5⟩ := grown_part (K := [p]) ho P (gs := guestsIn w o part) (guests_nodup ho) (fun g hg => hg) (fun g hg hn => absurd hg hn) (by simp) (by simpa using hpp) ⟨p, by simp⟩ (first := [p]) rfl
  rw [ek]
  generalize grownFrom w (guestsIn w o part) [p] = gr at G g1 g2 g5
  refine ⟨g2, g1, ?_, fun T hT => ?_⟩
  · rw [List.length_singleton] at g5; omega
  · obtain ⟨A', e'⟩ := G.app
    have nd := g3
    rw [e'] at nd
    obtain ⟨n1, n2⟩ := List.nodup_cons.mp nd
    obtain ⟨u1, u2⟩ := G.seats T [p] A' e' g3 (fun x hx hx' => hT x ((g4 x).mp (by rw [e']; exact List.mem_append.mpr (.inr hx))) hx') (fun x hx => .inr hx) (fun g hg h => by
      have hgl := hl g (mem_guests.mp (g1 g hg)).1
      have e : (w.g g).1 = p := List.mem_singleton.mp h
      unfold unwantedIn at hun
      have := (List.mem_filter.mp hun).2
      have hin : p ∈ w.gs.map (·.1) := by
        rw [← e]
        refine List.mem_map.mpr ⟨w.gs[g], List.getElem_mem hgl, ?_⟩
        unfold Web.g
        rw [List.getD_eq_getElem?_getD, List.getElem?_eq_getElem hgl] <;> rfl
      simp [hin] at this)
    refine ⟨u1, A', u2, fun x => ?_⟩
    rw [← g4 x, e']
    simp only [List.cons_append, List.nil_append, List.mem_cons]
    constructor
    · intro h; exact ⟨.inr h, fun e => n1 (e ▸ h)⟩
    · rintro ⟨h | h, h'⟩
      · exact absurd h h'
      · exact h
/-! ### a walk's seats -/
theorem runT_mono : ∀ (a T : List Nat) (x : Nat), x ∈ T → x ∈ runT w T a
  | [], T, x, h => h
  | k :: a, T, x, h => runT_mono a _ x (List.mem_append.mpr (.inl h))
theorem walk_seats : ∀ (l : List Nat) (s : List (Option Nat)) (T : List Nat), l.Nodup → (∀ k ∈ l, k < s.length) →
    (l.foldl (runStep w) (s, T)).2 = runT w T l ∧ (l.foldl (runStep w) (s, T)).1.length = s.length ∧ (∀ k, k ∉ l → (l.foldl (runStep w) (s, T)).1.getD k none = s.getD k none) ∧ ∀ (a : List Nat) (k : Nat) (b : List Nat), l = a ++ k :: b → (l.foldl (runStep w) (s, T)).1.getD k none = lawSeat w (runT w T a) k
  | [], s, T, _, _ => ⟨rfl, rfl, fun _ _ => rfl, fun a k b e => by simp at e⟩
  | x :: l, s, T, nd, hl => by
    obtain ⟨n1, n2⟩ := List.nodup_cons.mp nd
    rw [List.foldl_cons]
    have es : runStep w (s, T) x = (s.set x (lawSeat w T x), T ++ (lawSeat w T x).toList) := rfl
    rw [es]
    have hx := hl x (by simp)
    obtain ⟨c1, c2, c3, c4⟩ := walk_seats l (s.set x (lawSeat w T x)) (T ++ (lawSeat w T x).toList) n2 (fun k hk => by rw [List.length_set]; exact hl k (List.mem_cons_of_mem _ hk))
    refine ⟨c1, by rw [c2, List.length_set], fun k hk => ?_, fun a k b e => ?_⟩
    · rw [c3 k fun h => hk (List.mem_cons_of_mem _ h), List.getD_eq_getElem?_getD, List.getElem?_set_ne (fun (e : x = k) => hk (by rw [← e]; exact List.mem_cons_self)), ← List.getD_eq_getElem?_getD]
    · cases a with
      | nil =>
        obtain ⟨rfl, rfl⟩ := List.cons.inj e
        rw [c3 _ n1, List.getD_eq_getElem?_getD, List.getElem?_set_self hx] <;> rfl
      | cons y a =>
        obtain ⟨rfl, rfl⟩ := List.cons.inj e
        exact c4 a k b rfl
theorem lawRun_at {a b : List Nat} {k : Nat} (nd : (a ++ k :: b).Nodup) (hl : ∀ k' ∈ a ++ k :: b, k' < w.gs.length) : (lawRun w (a ++ k :: b)).getD k none = lawSeat w (runT w [] a) k := by
  unfold lawRun
  exact (walk_seats _ _ [] nd (by simpa using hl)).2.2.2 a k b rfl
theorem mem_lacking {s : List (Option Nat)} {k : Nat} : k ∈ lawLacking s ↔ k < s.length ∧ s.getD k none = none := by
  unfold lawLacking
  rw [List.mem_filter, List.mem_range, Option.isNone_iff_eq_none]
theorem allS_at : ∀ (a : List Nat) (k : Nat) (b T : List Nat), allS w T (a ++ k :: b) → (lawSeat w (runT w T a) k).isSome = true := fun a k b T h => ((allS_app a (k :: b) T).mp h).2.1
theorem run_none : ∀ (L T : List Nat), (∀ g ∈ L, (w.g g).1 ∈ T ∧ (w.g g).2 ∈ T) → runT w T L = T
  | [], T, _ => rfl
  | g :: L, T, h => by
    obtain ⟨h1, h2⟩ := h g (by simp)
    have : lawSeat w T g = none := by
      unfold lawSeat
      rw [if_neg fun z => z h1, if_neg fun z => z h2]
    rw [runT, this]
    have e : T ++ (none : Option Nat).toList = T := by simp
    rw [e]
    exact run_none L T fun g hg => h g (List.mem_cons_of_mem _ hg)
/-- an order of seated guests, then a lot that lacks both its ends -/
theorem lacking_of {A L : List Nat} (nd : (A ++ L).Nodup) (hl : ∀ k ∈ A ++ L, k < w.gs.length) (hall : ∀ k, k < w.gs.length → k ∈ A ++ L) (hA : allS w [] A) (hL : ∀ g ∈ L, (w.g g).1 ∈ runT w [] A ∧ (w.g g).2 ∈ runT w [] A) (hasc : L.Pairwise (· < ·)) : lawLacking (lawRun w (A ++ L)) = L := by
  refine asc_extN (List.Pairwise.filter _ List.pairwise_lt_range) hasc fun k => ?_
  rw [mem_lacking, lawRun_len]
  constructor
  · rintro ⟨h1, h2⟩
    rcases List.mem_append.mp (hall k h1) with h | h
    · exfalso
      obtain ⟨a, b, e⟩ := List.append_of_mem h
      have e2 : A ++ L = a ++ k :: (b ++ L) := by rw [e]; simp
      have hs := lawRun_at (w := w) (a := a) (b := b ++ L) (k := k) (by rw [← e2]; exact nd) (by rw [← e2]; exact hl)
      rw [← e2, h2] at hs
      have := allS_at a k b [] (e ▸ hA)
      rw [← hs] at this
      cases this
    · exact h
  · intro h
    refine ⟨hl k (List.mem_append.mpr (.inr h)), ?_⟩
    obtain ⟨a, b, e⟩ := List.append_of_mem h
    have e2 : A ++ L = (A ++ a) ++ k :: b := by rw [e]; simp
    have hs := lawRun_at (w := w) (a := A ++ a) (b := b) (k := k) (by rw [← e2]; exact nd) (by rw [← e2]; exact hl)
    rw [← e2, runT_app, run_none a _ fun g hg => hL g (by rw [e]; exact List.mem_append.mpr (.inl hg))] at hs
    rw [hs]
    obtain ⟨h1, h2⟩ := hL k h
    unfold lawSeat
    rw [if_neg fun z => z h1, if_neg fun z => z h2]
end
end K17
end

section
set_option maxRecDepth 100000
set_option maxHeartbeats 4000000
/-! No bad part: the order told is right. -/
namespace K17
open MN DL
section
variable {w : Web} {L : List Nat}
theorem mem_others {g : Nat} : g ∈ othersIn w L ↔ g < w.gs.length ∧ g ∉ L := by
  unfold othersIn
  rw [List.mem_filter, List.mem_range]
  simp
theorem othersLt : ∀ g ∈ othersIn w L, g < w.gs.length := fun g hg => (mem_others.mp hg).1
theorem mem_spare {p : Nat} : p ∈ spareIn w L ↔ p ∈ unwantedIn w ∧ p ∉ metBy w L := by
  unfold spareIn
  rw [List.mem_filter]
  simp
theorem mem_unwanted {p : Nat} : p ∈ unwantedIn w ↔ p < w.many ∧ ∀ g, g < w.gs.length → (w.g g).1 ≠ p := by
  unfold unwantedIn
  rw [List.mem_filter, List.mem_range]
  constructor
  · rintro ⟨h1, h2⟩
    refine ⟨h1, fun g hg e => ?_⟩
    have hin : p ∈ w.gs.map (·.1) := by
      rw [← e]
      refine List.mem_map.mpr ⟨w.gs[g], List.getElem_mem hg, ?_⟩
      unfold Web.g
      rw [List.getD_eq_getElem?_getD, List.getElem?_eq_getElem hg] <;> rfl
    simp [hin] at h2
  · rintro ⟨h1, h2⟩
    refine ⟨h1, ?_⟩
    have : p ∉ w.gs.map (·.1) := fun h => by
      obtain ⟨x, hx, e⟩ := List.mem_map.mp h
      obtain ⟨i, hi, e2⟩ := List.getElem_of_mem hx
      refine h2 i hi ?_
      unfold Web.g
      rw [List.getD_eq_getElem?_getD, List.getElem?_eq_getElem hi, ← e, ← e2] <;> rfl
    simp [this]
theorem mem_met {p : Nat} : p ∈ metBy w L ↔ ∃ g ∈ L, (w.g g).1 = p ∨ (w.g g).2 = p := by
  unfold metBy
  rw [List.mem_flatMap]
  constructor
  · rintro ⟨g, hg, h⟩
    refine ⟨g, hg, ?_⟩
    simp at h
    rcases h with rfl | rfl
    · exact .inl rfl
    · exact .inr rfl
  · rintro ⟨g, hg, h | h⟩
    · exact ⟨g, hg, by simp [h]⟩
    · exact ⟨g, hg, by simp [h]⟩
theorem hasAny_iff {a b : List Nat} : hasAny a b = true ↔ ∃ p ∈ a, p ∈ b := by
  unfold hasAny
  rw [List.any_eq_true]
  simp
theorem isTree_iff {o part : List Nat} : isTree w o part = true ↔ (guestsIn w o part).length + 1 = part.length := by
  unfold isTree
  rw [decide_eq_true_eq]
  omega
theorem filter_head {f : Nat → Bool} {l : List Nat} (h : ∃ p ∈ l, f p = true) : ∃ p rest, l.filter f = p :: rest ∧ p ∈ l ∧ f p = true := by
  obtain ⟨p, hp, hf⟩ := h
  cases e : l.filter f with
  | nil => exact absurd hf (List.filter_eq_nil_iff.mp e p hp)
  | cons a rest =>
    have : a ∈ l.filter f := by rw [e]; simp
    exact ⟨a, rest, rfl, (List.mem_filter.mp this).1, (List.mem_filter.mp this).2⟩
theorem filter_one {f : Nat → Bool} {p : Nat} : ∀ {l : List Nat}, l.Nodup → p ∈ l → (∀ x ∈ l, f x = true ↔ x = p) → l.filter f = [p]
  | [], _, h, _ => nomatch h
  | a :: l, nd, hp, hf => by
    obtain ⟨n1, n2⟩ := List.nodup_cons.mp nd
    by_cases e : a = p
    · subst e
      rw [List.filter_cons, if_pos ((hf a (by simp)).mpr rfl)]
      have : l.filter f = [] := List.filter_eq_nil_iff.mpr fun x hx h => n1 ((hf x (List.mem_cons_of_mem _ hx)).mp h ▸ hx)
      rw [this]
    · rw [List.filter_cons, if_neg fun h => e ((hf a (by simp)).mp h)]
      refine filter_one n2 ?_ fun x hx => hf x (List.mem_cons_of_mem _ hx)
      rcases List.mem_cons.mp hp with h | h
      · exact absurd h.symm e
      · exact h
theorem not_bad (hb : badIn w L = []) {part : List Nat} (hp : part ∈ partsIn w (othersIn w L)) : (isTree w (othersIn w L) part = true → hasAny part (spareIn w L) = true) ∧ (isTree w (othersIn w L) part = false → (guestsIn w (othersIn w L) part).length ≤ part.length) := by
  have h := List.filter_eq_nil_iff.mp hb part hp
  unfold isBad at h
  constructor
  · intro ht
    rw [if_pos ht] at h
    simpa using h
  · intro ht
    rw [if_neg (by rw [ht]; simp)] at h
    simpa using h
/-- the one place picked in a tree -/
theorem frees_tree (hw : w.Ok) (hb : badIn w L = []) {part : List Nat} (hp : part ∈ partsIn w (othersIn w L)) (ht : isTree w (othersIn w L) part = true) :
    ∃ p, part.filter (fun x => decide (x ∈ freesOf w L)) = [p] ∧ p ∈ spareIn w L ∧ p ∈ part := by
  have P := part_of hw othersLt hp
  obtain ⟨q, hq, hqs⟩ := hasAny_iff.mp ((not_bad hb hp).1 ht)
  obtain ⟨p, rest, e, h1, h2⟩ := filter_head (f := fun p => decide (p ∈ spareIn w L)) ⟨q, hq, decide_eq_true hqs⟩
  refine ⟨p, filter_one P.nd h1 fun x hx => ?_, of_decide_eq_true h2, h1⟩
  rw [decide_eq_true_eq]
  unfold freesOf
  rw [List.mem_map]
  constructor
  · rintro ⟨part', hp', e'⟩
    obtain ⟨m1, m2⟩ := List.mem_filter.mp hp'
    obtain ⟨q', hq', hqs'⟩ := hasAny_iff.mp ((not_bad hb m1).1 m2)
    obtain ⟨y, r, hf, hy, _⟩ := filter_head (f := fun p => decide (p ∈ spareIn w L)) ⟨q', hq', decide_eq_true hqs'⟩
    rw [hf] at e'
    have e'' : y = x := e'
    subst e''
    have := part_uniq hw othersLt hp m1 hx hy
    subst this
    rw [hf] at e
    exact (List.cons.inj e).1
  · rintro rfl
    exact ⟨part, List.mem_filter.mpr ⟨hp, ht⟩, by rw [e]; rfl⟩
theorem all_of_len {a b : List Nat} (ha : a.Nodup) (hs : ∀ x ∈ a, x ∈ b) (hl : b.length ≤ a.length) : ∀ x ∈ b, x ∈ a := fun x hx => by
  by_cases h : x ∈ a
  · exact h
  · exfalso
    have := (List.nodup_cons.mpr ⟨h, ha⟩).length_le_of_subset (l₂ := b) fun y hy => by
      rcases List.mem_cons.mp hy with rfl | hy
      · exact hx
      · exact hs y hy
    rw [List.length_cons] at this
    omega
/-- what is kept of a part, in any case -/
theorem kept_ok (hw : w.Ok) (hb : badIn w L = []) {part : List Nat} (hp : part ∈ partsIn w (othersIn w L)) :
    (keptIn w (othersIn w L) part (freesOf w L)).Nodup ∧ (∀ g, g ∈ keptIn w (othersIn w L) part (freesOf w L) ↔ g ∈ guestsIn w (othersIn w L) part) ∧
    ∀ T : List Nat, (∀ x ∈ part, x ∉ T) → allS w T (keptIn w (othersIn w L) part (freesOf w L)) ∧ ∃ B, runT w T (keptIn w (othersIn w L) part (freesOf w L)) = T ++ B ∧ (∀ x ∈ B, x ∈ part) ∧ ∀ x ∈ part, x ∉ spareIn w L → x ∈ B := by
  have nb := not_bad hb hp
  cases ht : isTree w (othersIn w L) part with
  | true =>
    obtain ⟨p, e, h1, h2⟩ := frees_tree hw hb hp ht
    obtain ⟨k1, k2, k3, k4⟩ := kept_tree hw othersLt (others_nodup L) hp ht e (mem_spare.mp h1).1
    have hlen := isTree_iff.mp ht
    refine ⟨k1, fun g => ⟨k2 g, all_of_len k1 k2 (by omega) g⟩, fun T hT => ?_⟩
    obtain ⟨s1, B, s2, s3⟩ := k4 T hT
    exact ⟨s1, B, s2, fun x hx => ((s3 x).mp hx).1, fun x hx hn => (s3 x).mpr ⟨hx, fun e => hn (e ▸ h1)⟩⟩
  | false =>
    obtain ⟨k1, k2, k3, _, k4⟩ := kept_round hw othersLt (others_nodup L) hp ht (freesOf w L)
    have hlen := nb.2 ht
    refine ⟨k1, fun g => ⟨k2 g, all_of_len k1 k2 (by omega) g⟩, fun T hT => ?_⟩
    obtain ⟨s1, B, s2, s3⟩ := k4 T hT
    exact ⟨s1, B, s2, fun x hx => (s3 x).mp hx, fun x hx _ => (s3 x).mpr hx⟩
theorem parts_seats (hw : w.Ok) (hb : badIn w L = []) : ∀ (ps : List (List Nat)) (T : List Nat), (∀ part ∈ ps, part ∈ partsIn w (othersIn w L)) → ps.Pairwise (fun a b => ∀ x ∈ a, x ∉ b) → (∀ part ∈ ps, ∀ x ∈ part, x ∉ T) →
    (ps.flatMap fun part => keptIn w (othersIn w L) part (freesOf w L)).Nodup ∧ allS w T (ps.flatMap fun part => keptIn w (othersIn w L) part (freesOf w L)) ∧ (∀ x ∈ T, x ∈ runT w T (ps.flatMap fun part => keptIn w (othersIn w L) part (freesOf w L))) ∧ ∀ part ∈ ps, ∀ x ∈ part, x ∉ spareIn w L → x ∈ runT w T (ps.flatMap fun part => keptIn w (othersIn w L) part (freesOf w L))
  | [], T, _, _, _ => ⟨List.nodup_nil, True.intro, fun _ h => h, fun _ h => nomatch h⟩
  | part :: ps, T, hp, hd, hT => by
    obtain ⟨d1, d2⟩ := List.pairwise_cons.mp hd
    obtain ⟨k1, k2, k3⟩ := kept_ok hw hb (hp part (by simp))
    obtain ⟨s1, B, s2, s3, s4⟩ := k3 T (hT part (by simp))
    obtain ⟨i1, i2, i3, i4⟩ := parts_seats hw hb ps (T ++ B) (fun q hq => hp q (List.mem_cons_of_mem _ hq)) d2 fun q hq x hx hx' => by
      rcases List.mem_append.mp hx' with h | h
      · exact hT q (List.mem_cons_of_mem _ hq) x hx h
      · exact d1 q hq x (s3 x h) hx
    rw [List.flatMap_cons, allS_app, runT_app, s2]
    refine ⟨List.nodup_append.mpr ⟨k1, i1, fun x hx y hy e => ?_⟩, ⟨s1, i2⟩, fun x hx => i3 x (List.mem_append.mpr (.inl hx)), fun q hq x hx hn => ?_⟩
    · subst e
      obtain ⟨q, hq, hy⟩ := List.mem_flatMap.mp hy
      have c1 := (mem_guests.mp ((k2 x).mp hx)).2
      have c2 := (mem_guests.mp (((kept_ok hw hb (hp q (List.mem_cons_of_mem _ hq))).2.1 x).mp hy)).2
      exact d1 q hq _ c1 c2
    · rcases List.mem_cons.mp hq with rfl | hq
      · exact i3 x (List.mem_append.mpr (.inr (s4 x hx hn)))
      · exact i4 q hq x hx hn
theorem order_just (hw : w.Ok) (hL : Lot w L) (hb : badIn w L = []) : isJust w L (orderInLot w L) = true := by
  obtain ⟨ps1, ps2⟩ := partsIn_spec hw (othersLt (w := w) (L := L))
  obtain ⟨a1, a2, _, a4⟩ := parts_seats hw hb (partsIn w (othersIn w L)) [] (fun _ h => h) ps2 (fun _ _ _ _ => by simp)
  have hmem : ∀ k, k ∈ ((partsIn w (othersIn w L)).flatMap fun part => keptIn w (othersIn w L) part (freesOf w L)) ↔ k ∈ othersIn w L := fun k => by
    rw [List.mem_flatMap]
    constructor
    · rintro ⟨part, hp, hk⟩
      exact (mem_guests.mp (((kept_ok hw hb hp).2.1 k).mp hk)).1
    · intro hk
      obtain ⟨part, hp, hx⟩ := part_at hw (othersLt (w := w) (L := L)) (g_ok hw (othersLt k hk)).1
      exact ⟨part, hp, ((kept_ok hw hb hp).2.1 k).mpr (mem_guests.mpr ⟨hk, hx⟩)⟩
  unfold isJust isWalk orderInLot orderBy
  generalize hA : ((partsIn w (othersIn w L)).flatMap fun part => keptIn w (othersIn w L) part (freesOf w L)) = A at a1 a2 a4 hmem
  have Lnd : L.Nodup := hL.asc.imp fun h e => by omega
  have nd : (A ++ L).Nodup := List.nodup_append.mpr ⟨a1, Lnd, fun x hx y hy e => (mem_others.mp ((hmem x).mp hx)).2 (e ▸ hy)⟩
  have hlt : ∀ k ∈ A ++ L, k < w.gs.length := fun k hk => by
    rcases List.mem_append.mp hk with h | h
    · exact othersLt k ((hmem k).mp h)
    · exact hL.lt k h
  have hall : ∀ k, k < w.gs.length → k ∈ A ++ L := fun k hk => by
    by_cases h : k ∈ L
    · exact List.mem_append.mpr (.inr h)
    · exact List.mem_append.mpr (.inl ((hmem k).mpr (mem_others.mpr ⟨hk, h⟩)))
  have taken : ∀ x, x < w.many → x ∉ spareIn w L → x ∈ runT w [] A := fun x hx hn => by
    obtain ⟨part, hp, hxp⟩ := part_at hw (othersLt (w := w) (L := L)) hx
    exact a4 part hp x hxp hn
  have hlack := lacking_of (w := w) nd hlt hall a2 (fun g hg => by
    obtain ⟨g1, g2, _⟩ := g_ok hw (hL.lt g hg)
    exact ⟨taken _ g1 fun h => (mem_spare.mp h).2 (mem_met.mpr ⟨g, hg, .inl rfl⟩), taken _ g2 fun h => (mem_spare.mp h).2 (mem_met.mpr ⟨g, hg, .inr rfl⟩)⟩) hL.asc
  rw [hlack]
  have hsrt : srt (A ++ L) = List.range w.gs.length := asc_extN (asc_of (srt_sorted _) ((srt_perm _).nodup_iff.mpr nd)) List.pairwise_lt_range fun x => by
    rw [(srt_perm _).mem_iff, List.mem_range]
    exact ⟨hlt x, hall x⟩
  rw [hsrt]
  simp
end
end K17
end

section
set_option maxRecDepth 100000
set_option maxHeartbeats 4000000
/-! What a walk shows of the lot it lacks. -/
namespace K17
open MN DL
section
variable {w : Web} {L : List Nat}
def sg (w : Web) : List Nat → List Nat → List Nat
  | _, [] => []
  | T, k :: ks => (if (lawSeat w T k).isSome then [k] else []) ++ sg w (T ++ (lawSeat w T k).toList) ks
theorem seat_some {T : List Nat} {k p : Nat} (h : lawSeat w T k = some p) : p ∉ T ∧ ((w.g k).1 = p ∨ (w.g k).2 = p) := by
  unfold lawSeat at h
  split at h
  · rename_i c
    have e := Option.some.inj h
    subst e
    exact ⟨c, .inl rfl⟩
  · split at h
    · rename_i c
      have e := Option.some.inj h
      subst e
      exact ⟨c, .inr rfl⟩
    · cases h
theorem seat_none {T : List Nat} {k : Nat} (h : lawSeat w T k = none) : (w.g k).1 ∈ T ∧ (w.g k).2 ∈ T := by
  unfold lawSeat at h
  split at h
  · cases h
  · rename_i c
    split at h
    · cases h
    · rename_i c'
      exact ⟨Decidable.of_not_not c, Decidable.of_not_not c'⟩
theorem seat_nil {T : List Nat} {k : Nat} (h : lawSeat w T k = none) : T ++ (lawSeat w T k).toList = T := by rw [h]; simp
theorem seat_add {T : List Nat} {k p : Nat} (h : lawSeat w T k = some p) : T ++ (lawSeat w T k).toList = T ++ [p] := by rw [h]; rfl
theorem runT_ok (hw : w.Ok) : ∀ (W T : List Nat), T.Nodup → (∀ x ∈ T, x < w.many) → (∀ k ∈ W, k < w.gs.length) → (runT w T W).Nodup ∧ (∀ x ∈ runT w T W, x < w.many) ∧ (runT w T W).length = T.length + (sg w T W).length ∧ (sg w T W).Sublist W
  | [], T, h1, h2, _ => ⟨h1, h2, rfl, List.Sublist.refl _⟩
  | k :: W, T, h1, h2, hk => by
    have hkl := hk k (by simp)
    obtain ⟨g1, g2, _⟩ := g_ok hw hkl
    rw [runT, sg]
    cases hs : lawSeat w T k with
    | none =>
      have e : T ++ (none : Option Nat).toList = T := by simp
      rw [e]
      obtain ⟨a, b, c, d⟩ := runT_ok hw W T h1 h2 fun x hx => hk x (List.mem_cons_of_mem _ hx)
      refine ⟨a, b, by simpa using c, ?_⟩
      exact (by simpa using d.cons k)
    | some p =>
      obtain ⟨hp, hpe⟩ := seat_some hs
      have e : T ++ (some p).toList = T ++ [p] := rfl
      rw [e]
      obtain ⟨a, b, c, d⟩ := runT_ok hw W (T ++ [p]) (List.nodup_append.mpr ⟨h1, by simp, fun x hx y hy e => hp (List.mem_singleton.mp hy ▸ e ▸ hx)⟩) (fun x hx => by
        rcases List.mem_append.mp hx with h | h
        · exact h2 x h
        · rw [List.mem_singleton.mp h]
          rcases hpe with h | h
          · rw [← h]; exact g1
          · rw [← h]; exact g2) fun x hx => hk x (List.mem_cons_of_mem _ hx)
      refine ⟨a, b, ?_, ?_⟩
      · rw [c, List.length_append, List.length_append]; simp only [Option.isSome_some, if_true, List.length_singleton]; omega
      · simp only [Option.isSome_some, if_true, List.singleton_append]
        exact d.cons₂ k
theorem runT_cnt (P : List Nat) : ∀ (W T : List Nat), (∀ k ∈ sg w T W, ((w.g k).1 ∈ P ↔ (w.g k).2 ∈ P)) → ((runT w T W).filter fun x => decide (x ∈ P)).length = (T.filter fun x => decide (x ∈ P)).length + ((sg w T W).filter fun k => decide ((w.g k).1 ∈ P)).length
  | [], T, _ => rfl
  | k :: W, T, h => by
    rw [runT, sg]
    rw [sg] at h
    cases hs : lawSeat w T k with
    | none =>
      rw [hs] at h
      have e : T ++ (none : Option Nat).toList = T := by simp
      rw [e] at h ⊢
      have := runT_cnt P W T fun x hx => h x (List.mem_append.mpr (.inr hx))
      simpa using this
    | some p =>
      rw [hs] at h
      have e : T ++ (some p).toList = T ++ [p] := rfl
      rw [e] at h ⊢
      obtain ⟨hp, hpe⟩ := seat_some hs
      have ih := runT_cnt P W (T ++ [p]) fun x hx => h x (List.mem_append.mpr (.inr hx))
      have hk := h k (List.mem_append.mpr (.inl (by simp)))
      rw [ih, List.filter_append, List.length_append]
      simp only [Option.isSome_some, if_true, List.singleton_append]
      rw [List.filter_cons]
      have hiff : p ∈ P ↔ (w.g k).1 ∈ P := by
        rcases hpe with h | h
        · rw [← h]
        · rw [← h]; exact hk.symm
      by_cases c : p ∈ P
      · have c' := hiff.mp c
        simp [c, c']; omega
      · have c' : (w.g k).1 ∉ P := fun h => c (hiff.mpr h)
        simp [c, c']
theorem mem_sg {k : Nat} : ∀ (W T : List Nat), k ∈ sg w T W ↔ ∃ a b, W = a ++ k :: b ∧ (lawSeat w (runT w T a) k).isSome = true
  | [], T => ⟨fun h => by simp [sg] at h, fun ⟨a, b, e, _⟩ => by simp at e⟩
  | x :: W, T => by
    rw [sg, List.mem_append, mem_sg W]
    constructor
    · rintro (h | ⟨a, b, e, h⟩)
      · by_cases c : (lawSeat w T x).isSome = true
        · rw [if_pos c] at h
          have := List.mem_singleton.mp h
          subst this
          exact ⟨[], W, rfl, c⟩
        · rw [if_neg c] at h; cases h
      · exact ⟨x :: a, b, by rw [e]; rfl, h⟩
    · rintro ⟨a, b, e, h⟩
      cases a with
      | nil =>
        obtain ⟨rfl, rfl⟩ := List.cons.inj e
        have h' : (lawSeat w T x).isSome = true := h
        exact .inl (by rw [if_pos h']; simp)
      | cons y a =>
        obtain ⟨rfl, rfl⟩ := List.cons.inj e
        exact .inr ⟨a, b, rfl, h⟩
theorem mem_runT {p : Nat} : ∀ (W T : List Nat), p ∈ runT w T W ↔ p ∈ T ∨ ∃ a k b, W = a ++ k :: b ∧ lawSeat w (runT w T a) k = some p
  | [], T => ⟨fun h => .inl h, fun h => by
    rcases h with h | ⟨a, k, b, e, _⟩
    · exact h
    · simp at e⟩
  | x :: W, T => by
    rw [runT, mem_runT W]
    constructor
    · rintro (h | ⟨a, k, b, e, h⟩)
      · rcases List.mem_append.mp h with h | h
        · exact .inl h
        · exact .inr ⟨[], x, W, rfl, by
            cases hs : lawSeat w T x with
            | none => rw [hs] at h; simp at h
            | some q =>
              rw [hs] at h
              have : p = q := by simpa using h
              show lawSeat w T x = _
              rw [hs, this]⟩
      · exact .inr ⟨x :: a, k, b, by rw [e]; rfl, h⟩
    · rintro (h | ⟨a, k, b, e, h⟩)
      · exact .inl (List.mem_append.mpr (.inl h))
      · cases a with
        | nil =>
          obtain ⟨rfl, rfl⟩ := List.cons.inj e
          have h' : lawSeat w T x = some p := h
          exact .inl (List.mem_append.mpr (.inr (by rw [h']; simp)))
        | cons y a =>
          obtain ⟨rfl, rfl⟩ := List.cons.inj e
          exact .inr ⟨a, k, b, rfl, h⟩
/-- what a walk shows -/
structure WalkF (w : Web) (W L T : List Nat) : Prop where
  lot : Lot w L
  nd : T.Nodup
  lt : ∀ x ∈ T, x < w.many
  lack : ∀ k ∈ L, (w.g k).1 ∈ T ∧ (w.g k).2 ∈ T
  free : ∀ p, p < w.many → p ∉ T → p ∈ unwantedIn w
  cnt : ∀ P : List Nat, (∀ k ∈ othersIn w L, ((w.g k).1 ∈ P ↔ (w.g k).2 ∈ P)) → (T.filter fun x => decide (x ∈ P)).length = (guestsIn w (othersIn w L) P).length
  len : T.length + L.length = w.gs.length
  seats : ∀ p, some p ∈ lawRun w W ↔ p ∈ T
theorem walk_facts (hw : w.Ok) {W : List Nat} (nd : W.Nodup) (hl : ∀ k ∈ W, k < w.gs.length) (hall : ∀ k, k < w.gs.length → k ∈ W) : WalkF w W (lawLacking (lawRun w W)) (runT w [] W) := by
  obtain ⟨t1, t2, t3, t4⟩ := runT_ok hw W [] List.nodup_nil (by simp) hl
  have hat : ∀ k, k < w.gs.length → ∃ a b, W = a ++ k :: b ∧ (lawRun w W).getD k none = lawSeat w (runT w [] a) k := fun k hk => by
    obtain ⟨a, b, e⟩ := List.append_of_mem (hall k hk)
    refine ⟨a, b, e, ?_⟩
    have := lawRun_at (w := w) (a := a) (b := b) (k := k) (e ▸ nd) (e ▸ hl)
    rw [← e] at this
    exact this
  have sub : ∀ {a k b}, W = a ++ k :: b → ∀ x ∈ runT w [] a, x ∈ runT w [] W := fun {a k b} e x hx => by
    rw [e, runT_app]; exact runT_mono _ _ _ hx
  have hL : ∀ k, k ∈ lawLacking (lawRun w W) ↔ k < w.gs.length ∧ (lawRun w W).getD k none = none := fun k => by rw [mem_lacking, lawRun_len]
  have hsg : ∀ k, k ∈ sg w [] W ↔ k ∈ othersIn w (lawLacking (lawRun w W)) := fun k => by
    rw [mem_others, hL, mem_sg]
    constructor
    · rintro ⟨a, b, e, h⟩
      have hk := hl k (by rw [e]; simp)
      have := lawRun_at (w := w) (a := a) (b := b) (k := k) (e ▸ nd) (e ▸ hl)
      rw [← e] at this
      refine ⟨hk, fun h' => ?_⟩
      rw [← this, h'.2] at h
      cases h
    · rintro ⟨hk, h⟩
      obtain ⟨a, b, e, hs⟩ := hat k hk
      refine ⟨a, b, e, ?_⟩
      rw [← hs, Option.isSome_iff_ne_none]
      exact fun hn => h ⟨hk, hn⟩
  have sgnd : (sg w [] W).Nodup := t4.nodup nd
  refine ⟨⟨fun g hg => ((hL g).mp hg).1, ?_⟩, t1, t2, fun k hk => ?_, fun p hp hn => ?_, fun P hP => ?_, ?_, fun p => ?_⟩
  · exact List.Pairwise.filter _ List.pairwise_lt_range
  · obtain ⟨h1, h2⟩ := (hL k).mp hk
    obtain ⟨a, b, e, hs⟩ := hat k h1
    rw [h2] at hs
    obtain ⟨c1, c2⟩ := seat_none hs.symm
    exact ⟨sub e _ c1, sub e _ c2⟩
  · refine mem_unwanted.mpr ⟨hp, fun g hg e => ?_⟩
    obtain ⟨a, b, e', hs⟩ := hat g hg
    by_cases c : (w.g g).1 ∈ runT w [] a
    · exact hn (e ▸ sub e' _ c)
    · exact hn ((mem_runT W []).mpr (.inr ⟨a, g, b, e', e ▸ seat_near c⟩))
  · rw [runT_cnt P W [] fun k hk => hP k ((hsg k).mp hk)]
    rw [List.filter_nil, List.length_nil, Nat.zero_add]
    refine perm_len (sgnd.filter _) (guests_nodup (others_nodup _)) fun x => ?_
    rw [List.mem_filter, mem_guests, hsg, decide_eq_true_eq]
  · rw [t3, List.length_nil, Nat.zero_add]
    have e1 : (sg w [] W).length = (othersIn w (lawLacking (lawRun w W))).length := perm_len sgnd (others_nodup _) hsg
    have e2 := len_filter_not (fun g => decide (g ∈ lawLacking (lawRun w W))) (List.range w.gs.length)
    have e3 : ((List.range w.gs.length).filter fun g => decide (g ∈ lawLacking (lawRun w W))).length = (lawLacking (lawRun w W)).length := perm_len (List.nodup_range.filter _) (by unfold lawLacking; exact List.nodup_range.filter _) fun x => by
      rw [List.mem_filter, List.mem_range, decide_eq_true_eq]
      exact ⟨fun h => h.2, fun h => ⟨((hL x).mp h).1, h⟩⟩
    rw [List.length_range] at e2
    have e4 : (othersIn w (lawLacking (lawRun w W))).length = ((List.range w.gs.length).filter fun g => !decide (g ∈ lawLacking (lawRun w W))).length := rfl
    omega
  · constructor
    · intro h
      obtain ⟨k, hk, e⟩ := List.getElem_of_mem h
      have hk' := hk
      rw [lawRun_len] at hk'
      obtain ⟨a, b, e', hs⟩ := hat k hk'
      rw [List.getD_eq_getElem?_getD, List.getElem?_eq_getElem hk] at hs
      exact (mem_runT W []).mpr (.inr ⟨a, k, b, e', by rw [← hs, ← e] <;> rfl⟩)
    · intro h
      rcases (mem_runT W []).mp h with h | ⟨a, k, b, e, hs⟩
      · cases h
      · have := lawRun_at (w := w) (a := a) (b := b) (k := k) (e ▸ nd) (e ▸ hl)
        rw [← e, hs] at this
        have hk : k < (lawRun w W).length := by rw [lawRun_len]; exact hl k (by rw [e]; simp)
        rw [List.getD_eq_getElem?_getD, List.getElem?_eq_getElem hk] at this
        have e3 : (lawRun w W)[k] = some p := this
        rw [← e3]
        exact List.getElem_mem hk
/-- a part with a place more than guests holds a free place -/
theorem WalkF.spare (hw : w.Ok) {W T F part : List Nat} (h : WalkF w W L T) (hF : ∀ k ∈ F, k ∈ L) (hp : part ∈ partsIn w (othersIn w F)) (hlt : (guestsIn w (othersIn w L) part).length < part.length) : ∃ p ∈ part, p ∈ spareIn w F ∧ p ∉ T := by
  have P := part_of hw othersLt hp
  have sub : ∀ k ∈ othersIn w L, k ∈ othersIn w F := fun k hk => by
    obtain ⟨h1, h2⟩ := mem_others.mp hk
    exact mem_others.mpr ⟨h1, fun h' => h2 (hF k h')⟩
  have hc := h.cnt part fun k hk => ⟨P.fwd (sub k hk), P.bwd (sub k hk)⟩
  have ex : ∃ p ∈ part, p ∉ T := by
    refine Decidable.byContradiction fun hn => ?_
    have hall : ∀ p ∈ part, p ∈ T := fun p hp => Decidable.byContradiction fun h' => hn ⟨p, hp, h'⟩
    have := P.nd.length_le_of_subset (l₂ := T.filter fun x => decide (x ∈ part)) fun x hx => List.mem_filter.mpr ⟨hall x hx, decide_eq_true hx⟩
    omega
  obtain ⟨p, hp1, hp2⟩ := ex
  refine ⟨p, hp1, mem_spare.mpr ⟨h.free p (P.lt p hp1) hp2, fun hm => ?_⟩, hp2⟩
  obtain ⟨g, hg, e⟩ := mem_met.mp hm
  obtain ⟨c1, c2⟩ := h.lack g (hF g hg)
  rcases e with e | e
  · exact hp2 (e ▸ c1)
  · exact hp2 (e ▸ c2)
theorem guests_mono {o o' part : List Nat} (ho : o.Nodup) (h : ∀ k ∈ o, k ∈ o') : (guestsIn w o part).length ≤ (guestsIn w o' part).length :=
  (guests_nodup ho).length_le_of_subset fun g hg => mem_guests.mpr ⟨h g (mem_guests.mp hg).1, (mem_guests.mp hg).2⟩
theorem WalkF.cap (hw : w.Ok) {W T part : List Nat} (h : WalkF w W L T) (hp : part ∈ partsIn w (othersIn w L)) : (guestsIn w (othersIn w L) part).length ≤ part.length := by
  have P := part_of hw othersLt hp
  rw [← h.cnt part fun k hk => ⟨P.fwd hk, P.bwd hk⟩]
  have hn : (T.filter fun x => decide (x ∈ part)).Nodup := h.nd.filter _
  exact hn.length_le_of_subset fun x hx => of_decide_eq_true (List.mem_filter.mp hx).2
theorem WalkF.bad (hw : w.Ok) {W T : List Nat} (h : WalkF w W L T) : badIn w L = [] := List.filter_eq_nil_iff.mpr fun part hp => by
  unfold isBad
  cases ht : isTree w (othersIn w L) part with
  | true =>
    rw [if_pos rfl]
    have := isTree_iff.mp ht
    obtain ⟨p, h1, h2, _⟩ := h.spare hw (F := L) (fun _ h => h) hp (by omega)
    have : hasAny part (spareIn w L) = true := hasAny_iff.mpr ⟨p, h1, h2⟩
    rw [this]; simp
  | false =>
    rw [if_neg (by simp)]
    have := h.cap hw hp
    simp; omega
theorem WalkF.barring (hw : w.Ok) {W T F : List Nat} (h : WalkF w W L T) (hF : ∀ k ∈ F, k ∈ L) : barringIn w F = [] := List.filter_eq_nil_iff.mpr fun part hp hb => by
  unfold isBarring at hb
  rw [Bool.and_eq_true, Bool.and_eq_true] at hb
  obtain ⟨⟨h1, h2⟩, h3⟩ := hb
  have ht := isTree_iff.mp h1
  have hm : (guestsIn w (othersIn w L) part).length ≤ (guestsIn w (othersIn w F) part).length := guests_mono (others_nodup L) fun k hk => by
    obtain ⟨h1, h2⟩ := mem_others.mp hk
    exact mem_others.mpr ⟨h1, fun h' => h2 (hF k h')⟩
  obtain ⟨p, h1, h2, _⟩ := h.spare hw hF hp (by omega)
  have : hasAny part (spareIn w F) = true := hasAny_iff.mpr ⟨p, h1, h2⟩
  rw [this] at h3
  cases h3
end
end K17
end

section
set_option maxRecDepth 100000
set_option maxHeartbeats 4000000
/-! The law's words and the program's; a lot grown. -/
namespace K17
open MN DL
section
variable {w : Web} {L : List Nat}
theorem free_in_eq (w : Web) (l part : List Nat) : lawFreeIn w l part = part.filter fun p => decide (p ∈ spareIn w l) := by
  unfold lawFreeIn
  refine List.filter_congr fun p hp => ?_
  have e : ((l.filter fun k => decide (p ∈ [(w.g k).1, (w.g k).2])).isEmpty) = !decide (p ∈ metBy w l) := by
    by_cases h : p ∈ metBy w l
    · obtain ⟨g, hg, he⟩ := mem_met.mp h
      have : g ∈ l.filter fun k => decide (p ∈ [(w.g k).1, (w.g k).2]) := List.mem_filter.mpr ⟨hg, by
        rcases he with he | he <;> simp [he]⟩
      have hne : (l.filter fun k => decide (p ∈ [(w.g k).1, (w.g k).2])) ≠ [] := List.ne_nil_of_mem this
      cases hc : l.filter fun k => decide (p ∈ [(w.g k).1, (w.g k).2]) with
      | nil => exact absurd hc hne
      | cons a b => simp [h]
    · have : (l.filter fun k => decide (p ∈ [(w.g k).1, (w.g k).2])) = [] := List.filter_eq_nil_iff.mpr fun g hg hd => by
        refine h (mem_met.mpr ⟨g, hg, ?_⟩)
        simp at hd
        rcases hd with rfl | rfl
        · exact .inl rfl
        · exact .inr rfl
      rw [this]; simp [h]
  rw [e]
  unfold spareIn
  by_cases h1 : p ∈ unwantedIn w <;> by_cases h2 : p ∈ metBy w l <;> simp [List.mem_filter, h1, h2]
theorem isEmpty_filter_hasAny (a b : List Nat) : (a.filter fun p => decide (p ∈ b)).isEmpty = !hasAny a b := by
  unfold hasAny
  induction a with
  | nil => rfl
  | cons x a ih =>
    rw [List.filter_cons, List.any_cons]
    by_cases h : x ∈ b <;> simp [h] at ih ⊢
    exact ih
theorem more_tree (hw : w.Ok) {part : List Nat} (hp : part ∈ partsIn w (othersIn w L)) : decide (lawMore w (othersIn w L) part < 0) = isTree w (othersIn w L) part := by
  have := part_len (others_nodup L) (part_of hw othersLt hp)
  have e := isTree_iff (w := w) (o := othersIn w L) (part := part)
  cases ht : isTree w (othersIn w L) part with
  | true =>
    have := e.mp ht
    unfold lawMore
    simp; omega
  | false =>
    have : ¬ (guestsIn w (othersIn w L) part).length + 1 = part.length := fun h => by rw [e.mpr h] at ht; cases ht
    unfold lawMore
    simp; omega
theorem bars_eq (hw : w.Ok) {part : List Nat} (hp : part ∈ partsIn w (othersIn w L)) : isBars w L part = isBad w (othersIn w L) (spareIn w L) part := by
  have h1 := more_tree hw hp
  unfold isBars isBad
  rw [h1, free_in_eq, isEmpty_filter_hasAny]
  cases ht : isTree w (othersIn w L) part with
  | true =>
    have := isTree_iff.mp ht
    have : decide (0 < lawMore w (othersIn w L) part) = false := by
      unfold lawMore
      simp; omega
    rw [this]; simp
  | false =>
    rw [if_neg (by simp)]
    simp only [Bool.false_and, Bool.or_false]
    unfold lawMore
    by_cases h : part.length < (guestsIn w (othersIn w L) part).length
    · simp [h]
    · simp [h]
theorem barred_eq (hw : w.Ok) {part : List Nat} (hp : part ∈ partsIn w (othersIn w L)) : isBarred w L part = isBarring w (othersIn w L) (spareIn w L) (metBy w L) part := by
  have h1 := more_tree hw hp
  unfold isBarred isBarring
  rw [h1, free_in_eq, isEmpty_filter_hasAny]
  have e : (!(lawEnds w L part).isEmpty) = hasAny part (metBy w L) := by
    unfold lawEnds
    cases hc : hasAny part (metBy w L) with
    | true =>
      obtain ⟨p, hp1, hp2⟩ := hasAny_iff.mp hc
      obtain ⟨g, hg, he⟩ := mem_met.mp hp2
      have : g ∈ L.filter fun k => decide ((w.g k).1 ∈ part) || decide ((w.g k).2 ∈ part) := List.mem_filter.mpr ⟨hg, by
        rcases he with he | he <;> simp [he, hp1]⟩
      cases hd : L.filter fun k => decide ((w.g k).1 ∈ part) || decide ((w.g k).2 ∈ part) with
      | nil => rw [hd] at this; cases this
      | cons a b => rfl
    | false =>
      have : (L.filter fun k => decide ((w.g k).1 ∈ part) || decide ((w.g k).2 ∈ part)) = [] := List.filter_eq_nil_iff.mpr fun g hg hd => by
        have : hasAny part (metBy w L) = true := by
          simp at hd
          rcases hd with h | h
          · exact hasAny_iff.mpr ⟨_, h, mem_met.mpr ⟨g, hg, .inl rfl⟩⟩
          · exact hasAny_iff.mpr ⟨_, h, mem_met.mpr ⟨g, hg, .inr rfl⟩⟩
        rw [this] at hc; cases hc
      rw [this]; rfl
  rw [e]
  cases isTree w (othersIn w L) part <;> cases hasAny part (metBy w L) <;> simp
theorem mem_bars (hw : w.Ok) {part : List Nat} : part ∈ lawBars w L ↔ part ∈ badIn w L := by
  unfold lawBars badIn
  rw [List.mem_filter, List.mem_filter, mem_lawParts hw othersLt]
  constructor
  · rintro ⟨a, b⟩; exact ⟨a, by rw [← bars_eq hw a]; exact b⟩
  · rintro ⟨a, b⟩; exact ⟨a, by rw [bars_eq hw a]; exact b⟩
theorem mem_barred (hw : w.Ok) {part : List Nat} : part ∈ lawBarredBy w L ↔ part ∈ barringIn w L := by
  unfold lawBarredBy barringIn
  rw [List.mem_filter, List.mem_filter, mem_lawParts hw othersLt]
  constructor
  · rintro ⟨a, b⟩; exact ⟨a, by rw [← barred_eq hw a]; exact b⟩
  · rintro ⟨a, b⟩; exact ⟨a, by rw [barred_eq hw a]; exact b⟩
theorem nil_iff {α : Type} {a b : List α} (h : ∀ x, x ∈ a ↔ x ∈ b) : a = [] ↔ b = [] := by
  constructor
  · intro e
    cases hb : b with
    | nil => rfl
    | cons x y => have := (h x).mpr (by rw [hb]; simp); rw [e] at this; cases this
  · intro e
    cases hb : a with
    | nil => rfl
    | cons x y => have := (h x).mp (by rw [hb]; simp); rw [e] at this; cases this
theorem bars_nil (hw : w.Ok) : lawBars w L = [] ↔ badIn w L = [] := nil_iff fun _ => mem_bars hw
theorem barred_nil (hw : w.Ok) : lawBarredBy w L = [] ↔ barringIn w L = [] := nil_iff fun _ => mem_barred hw
/-! ### places due -/
theorem due_perm (hw : w.Ok) : (lawDue w L).Perm ((treesOf w (othersIn w L)).flatMap fun part => part.filter fun p => decide (p ∈ spareIn w L)) := by
  have e : ∀ ps : List (List Nat), ((ps.filter (isTree w (othersIn w L))).flatMap fun part => part.filter fun p => decide (p ∈ spareIn w L)) = ps.flatMap fun part => if isTree w (othersIn w L) part = true then part.filter fun p => decide (p ∈ spareIn w L) else [] := fun ps => by
    induction ps with
    | nil => rfl
    | cons a ps ih =>
      rw [List.flatMap_cons, ← ih, List.filter_cons]
      cases isTree w (othersIn w L) a <;> simp
  unfold treesOf lawDue
  rw [e]
  have e2 : ∀ ps : List (List Nat), (∀ part ∈ ps, part ∈ partsIn w (othersIn w L)) → (ps.flatMap fun part => if lawMore w (othersIn w L) part < 0 then lawFreeIn w L part else []) = ps.flatMap fun part => if isTree w (othersIn w L) part = true then part.filter fun p => decide (p ∈ spareIn w L) else [] := fun ps hps => by
    induction ps with
    | nil => rfl
    | cons a ps ih =>
      rw [List.flatMap_cons, List.flatMap_cons, ih fun q hq => hps q (List.mem_cons_of_mem _ hq)]
      have := more_tree hw (hps a (by simp))
      rw [free_in_eq]
      by_cases h : lawMore w (othersIn w L) a < 0
      · rw [decide_eq_true h] at this
        rw [if_pos h, if_pos this.symm]
      · rw [decide_eq_false h] at this
        rw [if_neg h, if_neg (by rw [← this]; simp)]
  rw [e2 _ fun part h => (mem_lawParts hw othersLt).mp h]
  exact (perm_parts hw othersLt).flatMap_right _
theorem due_nodup (hw : w.Ok) : ((treesOf w (othersIn w L)).flatMap fun part => part.filter fun p => decide (p ∈ spareIn w L)).Nodup := by
  unfold treesOf
  have h1 := partsIn_spec hw (othersLt (w := w) (L := L))
  have h2 : ∀ part ∈ (partsIn w (othersIn w L)).filter (isTree w (othersIn w L)), part.Nodup := fun part hp => (part_of hw othersLt (List.mem_filter.mp hp).1).nd
  have h3 : ((partsIn w (othersIn w L)).filter (isTree w (othersIn w L))).Pairwise fun a b => ∀ x ∈ a, x ∉ b := h1.2.filter _
  generalize (partsIn w (othersIn w L)).filter (isTree w (othersIn w L)) = ps at h2 h3
  induction ps with
  | nil => exact List.nodup_nil
  | cons a ps ih =>
    obtain ⟨d1, d2⟩ := List.pairwise_cons.mp h3
    rw [List.flatMap_cons]
    refine List.nodup_append.mpr ⟨(h2 a (by simp)).filter _, ih (fun q hq => h2 q (List.mem_cons_of_mem _ hq)) d2, fun x hx y hy e => ?_⟩
    subst e
    obtain ⟨q, hq, hy⟩ := List.mem_flatMap.mp hy
    exact d1 q hq x (List.mem_filter.mp hx).1 (List.mem_filter.mp hy).1
theorem due_srt (hw : w.Ok) : srt (lawDue w L) = sparePlaces w L := by
  unfold sparePlaces
  have p := due_perm (L := L) hw
  have nd := due_nodup (L := L) hw
  refine asc_extN (asc_of (srt_sorted _) ((srt_perm _).nodup_iff.mpr (p.nodup_iff.mpr nd))) (asc_of (srt_sorted _) ((srt_perm _).nodup_iff.mpr nd)) fun x => ?_
  rw [(srt_perm _).mem_iff, (srt_perm _).mem_iff, p.mem_iff]
theorem within_iff {a b : List Nat} : within a b = true ↔ ∀ x ∈ a, x ∈ b := by
  unfold within
  rw [List.isEmpty_iff, List.filter_eq_nil_iff]
  simp
theorem WalkF.free_len (hw : w.Ok) {W T : List Nat} (h : WalkF w W L T) : ((freeBehind w (lawRun w W)).length : Int) = (w.many : Int) - (w.gs.length : Int) + (L.length : Int) := by
  have e1 := len_filter_not (fun p => decide (some p ∈ lawRun w W)) (List.range w.many)
  have e2 : ((List.range w.many).filter fun p => decide (some p ∈ lawRun w W)).length = T.length := perm_len (List.nodup_range.filter _) h.nd fun x => by
    rw [List.mem_filter, List.mem_range, decide_eq_true_eq, h.seats]
    exact ⟨fun h => h.2, fun hx => ⟨h.lt x hx, hx⟩⟩
  rw [List.length_range] at e1
  have e3 := h.len
  have e4 : (freeBehind w (lawRun w W)).length = ((List.range w.many).filter fun p => !decide (some p ∈ lawRun w W)).length := rfl
  omega
theorem WalkF.free_due (hw : w.Ok) {W T : List Nat} (h : WalkF w W L T) : within (freeBehind w (lawRun w W)) (lawDue w L) = true := within_iff.mpr fun p hp => by
  unfold freeBehind at hp
  obtain ⟨h1, h2⟩ := List.mem_filter.mp hp
  rw [List.mem_range] at h1
  have hT : p ∉ T := fun h' => by rw [decide_eq_true ((h.seats p).mpr h')] at h2; cases h2
  obtain ⟨part, hpart, hx⟩ := part_at hw (othersLt (w := w) (L := L)) h1
  have P := part_of hw othersLt hpart
  have hc := h.cnt part fun k hk => ⟨P.fwd hk, P.bwd hk⟩
  have hlt : (T.filter fun x => decide (x ∈ part)).length < part.length := by
    have hnd : (p :: T.filter fun x => decide (x ∈ part)).Nodup := List.nodup_cons.mpr ⟨fun h' => hT (List.mem_filter.mp h').1, h.nd.filter _⟩
    have := hnd.length_le_of_subset (l₂ := part) fun x hx' => by
      rcases List.mem_cons.mp hx' with rfl | h'
      · exact hx
      · exact of_decide_eq_true (List.mem_filter.mp h').2
    rw [List.length_cons] at this
    omega
  have ht : isTree w (othersIn w L) part = true := isTree_iff.mpr (by
    have := part_len (others_nodup L) P
    omega)
  rw [(due_perm hw).mem_iff]
  refine List.mem_flatMap.mpr ⟨part, List.mem_filter.mpr ⟨hpart, ht⟩, List.mem_filter.mpr ⟨hx, decide_eq_true (mem_spare.mpr ⟨h.free p h1 hT, fun hm => ?_⟩)⟩⟩
  obtain ⟨g, hg, e⟩ := mem_met.mp hm
  obtain ⟨c1, c2⟩ := h.lack g hg
  rcases e with e | e
  · exact hT (e ▸ c1)
  · exact hT (e ▸ c2)
/-! ### a lot grown -/
theorem mem_grown {g : Nat} : g ∈ lotGrown w L ↔ g ∈ L ∨ ∃ part ∈ partsIn w (othersIn w L), g ∈ grownMore w (othersIn w L) part := by
  unfold lotGrown
  rw [mem_setOf, List.mem_append, List.mem_flatMap]
theorem mem_more {o part : List Nat} {g : Nat} : g ∈ grownMore w o part ↔ part.length < (guestsIn w o part).length ∧ g ∈ guestsIn w o part ∧ g ∉ keptIn w o part [] := by
  unfold grownMore
  split
  · rename_i h
    rw [List.mem_filter]
    simp [h]
  · rename_i h
    simp [h]
theorem grown_lot (hL : Lot w L) : Lot w (lotGrown w L) := ⟨fun g hg => by
  rcases mem_grown.mp hg with h | ⟨part, hp, h⟩
  · exact hL.lt g h
  · exact othersLt g (mem_guests.mp (mem_more.mp h).2.1).1, setOf_asc _⟩
theorem more_not_tree {o part : List Nat} (h : part.length < (guestsIn w o part).length) : isTree w o part = false := by
  cases ht : isTree w o part with
  | false => rfl
  | true => have := isTree_iff.mp ht; omega
/-- guests of the others that stay are those that are in no part's more -/
theorem stays (hw : w.Ok) {part : List Nat} (hp : part ∈ partsIn w (othersIn w L)) {g : Nat} (hg : g ∈ guestsIn w (othersIn w L) part) (hn : g ∉ grownMore w (othersIn w L) part) : g ∈ othersIn w (lotGrown w L) := by
  obtain ⟨h1, h2⟩ := mem_guests.mp hg
  obtain ⟨h3, h4⟩ := mem_others.mp h1
  refine mem_others.mpr ⟨h3, fun h => ?_⟩
  rcases mem_grown.mp h with h | ⟨part', hp', h'⟩
  · exact h4 h
  · have := part_uniq hw othersLt hp hp' h2 (mem_guests.mp (mem_more.mp h').2.1).2
    subst this
    exact hn h'
theorem others_sub : ∀ g ∈ othersIn w (lotGrown w L), g ∈ othersIn w L := fun g hg => by
  obtain ⟨h1, h2⟩ := mem_others.mp hg
  exact mem_others.mpr ⟨h1, fun h => h2 (mem_grown.mpr (.inl h))⟩
theorem grown_cn (hw : w.Ok) {x y : Nat} : Cn w (othersIn w (lotGrown w L)) x y ↔ Cn w (othersIn w L) x y := by
  refine ⟨fun c => c.mono others_sub, fun c => ?_⟩
  have key : ∀ g ∈ othersIn w L, Cn w (othersIn w (lotGrown w L)) (w.g g).1 (w.g g).2 := fun g hg => by
    obtain ⟨part, hp, hx⟩ := part_at hw (othersLt (w := w) (L := L)) (g_ok hw (othersLt g hg)).1
    have hgs := mem_guests.mpr ⟨hg, hx⟩
    by_cases hm : g ∈ grownMore w (othersIn w L) part
    · have P := part_of hw othersLt hp
      obtain ⟨m1, _, _⟩ := mem_more.mp hm
      obtain ⟨k1, k2, k3, k4, _⟩ := kept_round hw othersLt (others_nodup L) hp (more_not_tree m1) []
      refine (k4 _ hx _ (P.fwd hg hx)).mono fun k hk => stays hw hp (k2 k hk) fun h => (mem_more.mp h).2.2 hk
    · exact Cn.guest (stays hw hp hgs hm)
  exact c.closed (S := fun z => Cn w (othersIn w (lotGrown w L)) x z) (fun g hg h => h.trans (key g hg)) (fun g hg h => h.trans (key g hg).symm) (.refl x)
theorem grown_parts (hw : w.Ok) {part : List Nat} : part ∈ partsIn w (othersIn w (lotGrown w L)) ↔ part ∈ partsIn w (othersIn w L) := by
  have key : ∀ q, q < w.many → partFrom w (othersIn w (lotGrown w L)) q = partFrom w (othersIn w L) q := fun q hq => asc_extN (part_asc hw othersLt hq) (part_asc hw othersLt hq) fun x => by
    rw [mem_part hw othersLt hq, mem_part hw othersLt hq, grown_cn hw]
  rw [(partsIn_spec hw othersLt).1, (partsIn_spec hw othersLt).1]
  constructor
  · rintro ⟨q, hq, e⟩; exact ⟨q, hq, by rw [e, key q hq]⟩
  · rintro ⟨q, hq, e⟩; exact ⟨q, hq, by rw [e, key q hq]⟩
theorem grown_bad (hw : w.Ok) (hL : Lot w L) (hb : barringIn w L = []) : badIn w (lotGrown w L) = [] := List.filter_eq_nil_iff.mpr fun part hp' => by
  have hp := (grown_parts hw).mp hp'
  have P := part_of hw othersLt hp
  by_cases hm : part.length < (guestsIn w (othersIn w L) part).length
  · -- a part that grew
    obtain ⟨k1, k2, k3, k4, _⟩ := kept_round hw othersLt (others_nodup L) hp (more_not_tree hm) []
    have hg : ∀ g, g ∈ guestsIn w (othersIn w (lotGrown w L)) part ↔ g ∈ keptIn w (othersIn w L) part [] := fun g => by
      constructor
      · intro h
        obtain ⟨h1, h2⟩ := mem_guests.mp h
        refine Decidable.byContradiction fun hn => ?_
        exact (mem_others.mp h1).2 (mem_grown.mpr (.inr ⟨part, hp, mem_more.mpr ⟨hm, mem_guests.mpr ⟨others_sub g h1, h2⟩, hn⟩⟩))
      · intro h
        have hgs := k2 g h
        exact mem_guests.mpr ⟨stays hw hp hgs fun h' => (mem_more.mp h').2.2 h, (mem_guests.mp hgs).2⟩
    have hlen := perm_len (guests_nodup (others_nodup (lotGrown w L))) k1 hg
    have hnt : isTree w (othersIn w (lotGrown w L)) part = false := by
      cases ht : isTree w (othersIn w (lotGrown w L)) part with
      | false => rfl
      | true => have := isTree_iff.mp ht; omega
    unfold isBad
    rw [hnt, if_neg (by simp)]
    simp; omega
  · have hg : ∀ g, g ∈ guestsIn w (othersIn w (lotGrown w L)) part ↔ g ∈ guestsIn w (othersIn w L) part := fun g => by
      constructor
      · intro h; exact mem_guests.mpr ⟨others_sub g (mem_guests.mp h).1, (mem_guests.mp h).2⟩
      · intro h; exact mem_guests.mpr ⟨stays hw hp h fun h' => hm (mem_more.mp h').1, (mem_guests.mp h).2⟩
    have hlen := perm_len (guests_nodup (others_nodup (lotGrown w L))) (guests_nodup (others_nodup L)) hg
    unfold isBad
    cases ht : isTree w (othersIn w (lotGrown w L)) part with
    | false => rw [if_neg (by simp)]; simp; omega
    | true =>
      rw [if_pos rfl]
      have htl : isTree w (othersIn w L) part = true := isTree_iff.mpr (by have := isTree_iff.mp ht; omega)
      -- a spare place of the tree, and no grown guest meets it
      have ex : ∃ p ∈ part, p ∈ spareIn w L := by
        cases hc : hasAny part (metBy w L) with
        | true =>
          have := List.filter_eq_nil_iff.mp hb part hp
          unfold isBarring at this
          rw [htl, hc] at this
          exact hasAny_iff.mp (by simpa using this)
        | false =>
          have hlt := isTree_iff.mp htl
          have : ∃ p ∈ part, ∀ g ∈ guestsIn w (othersIn w L) part, (w.g g).1 ≠ p := by
            refine Decidable.byContradiction fun hn => ?_
            have hall : ∀ p ∈ part, p ∈ (guestsIn w (othersIn w L) part).map fun g => (w.g g).1 := fun p hp => Decidable.byContradiction fun h' => hn ⟨p, hp, fun g hg e => h' (List.mem_map.mpr ⟨g, hg, e⟩)⟩
            have := P.nd.length_le_of_subset hall
            rw [List.length_map] at this
            omega
          obtain ⟨p, hp1, hp2⟩ := this
          have hnm : p ∉ metBy w L := fun h => by
            have : hasAny part (metBy w L) = true := hasAny_iff.mpr ⟨p, hp1, h⟩
            rw [this] at hc; cases hc
          refine ⟨p, hp1, mem_spare.mpr ⟨mem_unwanted.mpr ⟨P.lt p hp1, fun g hg e => ?_⟩, hnm⟩⟩
          by_cases hgl : g ∈ L
          · exact hnm (mem_met.mpr ⟨g, hgl, .inl e⟩)
          · exact hp2 g (mem_guests.mpr ⟨mem_others.mpr ⟨hg, hgl⟩, by rw [e]; exact hp1⟩) e
      obtain ⟨p, hp1, hp2⟩ := ex
      have : hasAny part (spareIn w (lotGrown w L)) = true := hasAny_iff.mpr ⟨p, hp1, mem_spare.mpr ⟨(mem_spare.mp hp2).1, fun h => by
        obtain ⟨g, hg, e⟩ := mem_met.mp h
        rcases mem_grown.mp hg with hg | ⟨part', hpart', hg⟩
        · exact (mem_spare.mp hp2).2 (mem_met.mpr ⟨g, hg, e⟩)
        · obtain ⟨m1, m2, _⟩ := mem_more.mp hg
          have P' := part_of hw othersLt hpart'
          obtain ⟨e1, e2⟩ := guests_ends P' m2
          have : part = part' := by
            rcases e with e | e
            · exact part_uniq hw othersLt hp hpart' hp1 (e ▸ e1)
            · exact part_uniq hw othersLt hp hpart' hp1 (e ▸ e2)
          subst this
          exact hm m1⟩⟩
      rw [this]; simp
theorem more_nodup (hw : w.Ok) : ∀ (ps : List (List Nat)), (∀ part ∈ ps, part ∈ partsIn w (othersIn w L)) → ps.Pairwise (fun a b => ∀ x ∈ a, x ∉ b) → (ps.flatMap (grownMore w (othersIn w L))).Nodup
  | [], _, _ => List.nodup_nil
  | a :: ps, hp, hd => by
    obtain ⟨d1, d2⟩ := List.pairwise_cons.mp hd
    rw [List.flatMap_cons]
    refine List.nodup_append.mpr ⟨?_, more_nodup hw ps (fun q hq => hp q (List.mem_cons_of_mem _ hq)) d2, fun x hx y hy e => ?_⟩
    · unfold grownMore
      split
      · exact (guests_nodup (others_nodup L)).filter _
      · exact List.nodup_nil
    · subst e
      obtain ⟨q, hq, hy⟩ := List.mem_flatMap.mp hy
      exact d1 q hq _ (mem_guests.mp (mem_more.mp hx).2.1).2 (mem_guests.mp (mem_more.mp hy).2.1).2
theorem more_len (hw : w.Ok) (hL : Lot w L) : (L ++ (partsIn w (othersIn w L)).flatMap (grownMore w (othersIn w L))).length ≤ w.gs.length := by
  refine len_of_lt (n := w.gs.length) (List.nodup_append.mpr ⟨hL.asc.imp fun h e => by omega, more_nodup hw _ (fun _ h => h) (partsIn_spec hw othersLt).2, fun x hx y hy e => ?_⟩) fun x hx => ?_
  · subst e
    obtain ⟨q, hq, hy⟩ := List.mem_flatMap.mp hy
    exact (mem_others.mp (mem_guests.mp (mem_more.mp hy).2.1).1).2 hx
  · rcases List.mem_append.mp hx with h | h
    · exact hL.lt x h
    · obtain ⟨q, hq, hy⟩ := List.mem_flatMap.mp h
      exact othersLt x (mem_guests.mp (mem_more.mp hy).2.1).1
theorem just_all {l big W : List Nat} (h : isJust w big W = true) (hs : ∀ x ∈ l, x ∈ big) : isAllOf w l W = true := by
  unfold isJust at h
  unfold isAllOf
  rw [Bool.and_eq_true] at h ⊢
  refine ⟨h.1, within_iff.mpr fun x hx => ?_⟩
  rw [of_decide_eq_true h.2]
  exact hs x hx
theorem grown_all (hw : w.Ok) (hL : Lot w L) (hb : barringIn w L = []) : isAllOf w L (orderInLot w (lotGrown w L)) = true :=
  just_all (order_just hw (grown_lot hL) (grown_bad hw hL hb)) fun x hx => mem_grown.mpr (.inl hx)
/-! ### draws -/
theorem erase_perm : ∀ (l : List Nat) (i : Nat), i < l.length → (l.getD i 0 :: l.eraseIdx i).Perm l
  | [], i, h => by simp at h
  | a :: l, 0, h => List.Perm.refl _
  | a :: l, i + 1, h => by
    have ih := erase_perm l i (by simpa using h)
    show (l.getD i 0 :: a :: l.eraseIdx i).Perm (a :: l)
    exact (List.Perm.swap _ _ _).trans (ih.cons a)
theorem pick_perm : ∀ (k : Nat) (l : List Nat) (s : TinS) (n : Nat), TinOk n s → l.length = k → (pickF k l s).1.Perm l
  | 0, l, s, n, _, h => by
    have : l = [] := List.eq_nil_of_length_eq_zero h
    subst this
    exact List.Perm.refl _
  | k + 1, l, s, n, hs, h => by
    obtain ⟨t1, t2⟩ := takeF_ok hs (m := l.length) (by omega)
    rw [pickF]
    refine (List.Perm.cons _ (pick_perm k (l.eraseIdx (takeF l.length s).1) _ _ t1 ?_)).trans (erase_perm l _ t2)
    rw [List.length_eraseIdx]
    rw [if_pos t2]
    omega
theorem edgesF_ends {many : Nat} (hm : 20 ≤ many) : ∀ (k n : Nat) (s : TinS), TinOk n s → ∀ p ∈ (edgesF many k s).1, p.1 < many ∧ p.2 < many ∧ p.1 ≠ p.2
  | 0, n, s, h => fun p hp => nomatch hp
  | k + 1, n, s, h => fun p hp => by
    rw [edgesF] at hp
    obtain ⟨h1, h2⟩ := edgesF_ok hm k n s h
    rcases List.mem_append.mp hp with hp | hp
    · exact edgesF_ends hm k n s h p hp
    · rw [List.mem_singleton.mp hp]
      exact (edgeF_ok hm h1).2
theorem netF_ok {n : Nat} {s : TinS} (h : TinOk n s) : (netF s).1.Ok ∧ (netF s).1.gs.length ≤ 40 ∧ 0 < (netF s).1.gs.length ∧ TinOk (n + 162) (netF s).2 := by
  obtain ⟨x1, x2⟩ := takeF_ok h (m := 21) (by omega)
  obtain ⟨y1, y2⟩ := takeF_ok x1 (m := 21) (by omega)
  unfold netF
  simp only
  generalize hx : takeF 21 s = x at x1 x2 y1 y2
  generalize hy : takeF 21 x.2 = y at y1 y2
  obtain ⟨e1, e2⟩ := edgesF_ok (many := 20 + x.1) (by omega) (20 + y.1) (n + 1 + 1) y.2 y1
  have e3 := edgesF_ends (many := 20 + x.1) (by omega) (20 + y.1) (n + 1 + 1) y.2 y1
  refine ⟨⟨by show 0 < 20 + x.1; omega, by show 20 + x.1 ≤ 100; omega, by show (edgesF (20 + x.1) (20 + y.1) y.2).1.length ≤ 100; omega, e3⟩, by omega, by omega, e1.mono (by omega)⟩
theorem keepF_sub : ∀ (l : List Nat) (s : TinS), (keepF l s).1.Sublist l
  | [], s => List.Sublist.refl _
  | a :: l, s => by
    rw [keepF]
    simp only
    split
    · exact (keepF_sub l _).cons₂ a
    · exact (keepF_sub l _).cons a
theorem keepF_ok : ∀ (l : List Nat) (s : TinS) (n : Nat), TinOk n s → TinOk (n + l.length) (keepF l s).2
  | [], s, n, h => h
  | a :: l, s, n, h => by
    rw [keepF]
    have := keepF_ok l _ _ (takeF_ok h (m := 2) (by omega)).1
    rw [List.length_cons]
    exact this.mono (by omega)
theorem sub_lot {l : List Nat} (hL : Lot w L) (h : l.Sublist L) : Lot w l := ⟨fun g hg => hL.lt g (h.subset hg), hL.asc.sublist h⟩
end
end K17
end

section
set_option maxRecDepth 100000
set_option maxHeartbeats 4000000
/-! The law's heard: a door's answer, or the refusal. -/
namespace K17
open PySem PySem.Spec PyProof.Rows L2 DL MN
/-- a def's value, called by two keywords turned; what it lets out is the clause's -/
def tCallW (ok : Addr → Sp → Prop) (W : WX) (te : TE) (tk : TA) : TE := fun σ H Q => te σ H fun v H1 => ∃ (f : Addr) (sp : Sp), v = .ref f ∧ ok f sp ∧ tk σ H1 fun zs H2 => sp zs.reverse H2 Q (WE W σ)
/-- a def at its address, to be called by keywords -/
def HeldK (P : Program) (w : World) (K : PySem.W.Frag) (mg : Str → Option Value) (base : Heap) (j : Nat) (ps : List Str) (f : Addr) (sp : Sp) : Prop :=
  ∃ (k : Nat) (fd : FuncData), k ≤ j ∧ FnOk P w K mg base (L2.CX P w) k f fd ps sp ∧ PySem.W.keepIn K (.ref f) = true ∧ KBinds K fd ps ps.reverse (fun us ws => us ++ ws.reverse) (fun vs zs => vs ++ zs.reverse)
section
variable {X : Cx} {j : Nat} {ps : List Str} {ok : Addr → Sp → Prop} {W : WX} {fe : Expr} {te : TE} {tk : TA} {kws : List Keyword} {pos : Pos}
theorem pe_callW (hok : ∀ f sp, ok f sp → HeldK X.prog X.w X.K X.mg X.base j ps f sp) (hr : Room j X.A) (tkW : Takes X W) (hf : PE X fe te) (hkw : PK X kws tk)
    (hks : (backToKw pos (keywordEach kws X.env)).filterMap (·.1) = ps.reverse := by rfl) (hall : (backToKw pos (keywordEach kws X.env)).all (·.1.isSome) = true := by rfl)
    (hpl : ((backTo pos (starEach [] X.env)).any (·.1) || (backToKw pos (keywordEach kws X.env)).any (·.1.isNone)) = false := by rfl)
    (ht : eval (.Call fe [] kws pos) X.env = (do callWith pos (← eval fe X.env) [] (backTo pos (starEach [] X.env)) (backToKw pos (keywordEach kws X.env))) := by rfl) :
    PE X (.Call fe [] kws pos) (tCallW ok W te tk) := by
  refine ⟨fun pins s σ H Q I h => ?_⟩
  rw [ht]
  refine wpAny_bind (thn (hf.run pins s σ H _ I h) fun u s1 ⟨y, H1, I1, ry, f, sp, ey, hsp, q⟩ => ?_)
  subst ey
  obtain rfl : u = Value.ref f := ry
  obtain ⟨k, fd, hk, F, kp, b⟩ := hok f sp hsp
  refine PySem.W.callWith_KW0 (h₀ := X.base) I1.ok.mod.kin kp hall (thn (hkw.run pos pins s1 σ H1 _ I1 q) fun ws s2 ⟨zs, H2, I2, rz, q2⟩ => ⟨I2.kIn, ?_⟩) hpl
  rw [hks]
  have r2 := b.rel (vs := []) (us := []) .nil rz
  rw [List.nil_append, List.nil_append] at r2
  have hl : (([] : List Value) ++ ws.reverse).length = ps.length := by rw [List.nil_append, ← r2.length]; exact F.len _ _ _ _ q2
  refine wpAny_call (codeAny_mono (F.run X.A X.stack s2 H2 ⟨[], ps.reverse.zip ws⟩ ws.reverse zs.reverse Q (WE W σ) (hr.mono hk) I2.env0 (by have z := b.to s2 [] ws I2.kIn hl; rw [List.nil_append] at z; exact z) r2 q2) fun r s' hq => ?_)
  rcases r with e | fl
  · exact passAt tkW σ pins H2 s2 e s' I2 hq
  · cases fl <;> first | exact I2.after hq | exact hq.elim
end
theorem held_of {P : Program} {w : World} {K : PySem.W.Frag} {mg : Str → Option Value} {base : Heap} {k j : Nat} {x : Str} {ps : List Str} {sp : Sp} (c : CalK P w K mg base k x ps sp) (h : k ≤ j) : ∃ f, mg x = some (.ref f) ∧ HeldK P w K mg base j ps f sp := by
  obtain ⟨f, fd, F, hm, kp, b, kb⟩ := c.ex
  exact ⟨f, hm, k, fd, h, F, kp, kb⟩
section
variable {K : PySem.W.Frag} {ρ ρ1 : En} {C a : Addr}
theorem cv_isE (h : PySem.W.kitOne K (.ref C) (.type "ValueError") = some true) : CallV (rIsE K C a) [.ob a, .ty "ValueError"] (.bl true) := fun G H us s rs Q q => by
  cases rs with
  | cons r1 r2 =>
    cases r2 with
    | cons r2 r3 =>
      cases r3; cases r2; cases r1
      exact ⟨_, _, true, rfl, fun u hu => hu, h, q _ G H Al.refl (.bl true)⟩
/-- what the clause's suite makes -/
def tsE (K : PySem.W.Frag) (C : Addr) (a : Addr) (cls : Value) (d : Option Addr) : TS := fun D σ H => (cls = .ref C ∧ d = none) ∧ tSeq (tAsg (tLst (tCons (tC (.str "can not")) (tCons (tCB (rIsE K C a) (tCons (tVar 4) (tCons (tC (.ty "ValueError")) tNil))) tNil))) (gName 3)) tNext D σ H
def canD : D := .lst [.str "can not", .bl true]
theorem run_heard {E : XK} {ok : Addr → Sp → Prop} {te : TE} {tk : TA} {f : Addr} {rel : List D → Option D → Prop} {a b x y z : D} {r : Option D} {po : Po}
    (hk : PySem.W.kitOne K (.ref C) (.type "ValueError") = some true) (hx : PySem.W.exmOne K (.ref C) (.ref C) = some true)
    (hte : EvD te [.va x, .va y, .va z, .va .non, .un] [.va x, .va y, .va z, .va .non, .un] (.va (.ob f))) (hok : ok f (spD C 2 rel)) (htk : EvA tk [.va x, .va y, .va z, .va .non, .un] [.va x, .va y, .va z, .va .non, .un] [.va b, .va a]) (hrel : rel [a, b] r)
    (h1 : ∀ d, r = some d → po.nx [.va x, .va y, .va z, .va d, .un]) (h2 : r = none → po.nx [.va x, .va y, .va z, .va canD, .un]) :
    Run C E (fun D σ H => tAsg (tCallW ok (wAs K (.ref C) 4 (tsE K C) (fun cls d _ H => E cls d H) D) te tk) (gName 3) D σ H) [.va x, .va y, .va z, .va .non, .un] po := fun t G0 H0 G H σ m Ds s => by
  have hl : σ.length = 5 := m.len
  show tCallW ok _ te tk σ H _
  refine hte t G0 H0 [] [] G H σ m.len m.nil _ fun v1 G1 H1 m1 => ?_
  have w1 := m1.last.rep
  cases w1
  refine ⟨f, spD C 2 rel, rfl, hok, ?_⟩
  have m1' := m1.pop
  refine EvA.all (xs := [b, a]) htk m.len m1' fun vs G2 H2 m2 rs => ?_
  cases rs with
  | cons r1 r2 =>
    cases r2 with
    | cons r2 r3 =>
      cases r3
      refine ⟨G2, [a, b], r, m2.gr.gh, .cons r2 (.cons r1 .nil), rfl, hrel, fun d e v G' H' g w => ?_, fun e G' H' g => ?_⟩
      · have m3 := ((m2.grow g).push w).store (by exact m.len) 3
        rw [List.append_nil, List.append_nil] at m3
        exact s.nx _ _ _ _ (h1 d e) m3
      · refine ⟨true, hx, fun _ ad ha => ?_, fun e => nomatch e⟩
        refine ⟨⟨rfl, rfl⟩, ?_⟩
        have m3 := ((m2.grow g).push (.ob ad)).store (by exact m.len) 4
        rw [List.append_nil, List.append_nil] at m3
        have run : Run C E (tSeq (tAsg (tLst (tCons (tC (.str "can not")) (tCons (tCB (rIsE K C ad) (tCons (tVar 4) (tCons (tC (.ty "ValueError")) tNil))) tNil))) (gName 3)) tNext) [.va x, .va y, .va z, .va .non, .va (.ob ad)] { nx := fun ρ => ρ = [.va x, .va y, .va z, .va canD, .va (.ob ad)] } :=
          run_seq1 (run_set (ρ1 := [.va x, .va y, .va z, .va .non, .va (.ob ad)]) (EvD.fz (ev_lst (xs := [.str "can not", .bl true]) (ea_cons (ev_c fun _ => .str _) (ea_cons (ev_call (xs := [.ob ad, .ty "ValueError"]) (ea_cons (ev_var rfl) (ea_cons (ev_c fun _ => .ty _) ea_nil)) (cv_isE hk)) ea_nil)) (by decide))) rfl) (run_next rfl)
        refine run t G0 H0 _ _ _ m3 _ ⟨fun ρ G4 H4 σ4 hρ m4 => ?_, fun _ _ _ _ h => h.elim, fun _ _ _ _ h => h.elim, fun _ _ _ _ _ _ h => h.elim, fun h => h.elim⟩
        subst hρ
        have m5 := m4.nil.wipe m4.len [4]
        rw [List.append_nil, List.append_nil] at m5
        exact s.nx _ _ _ _ (h2 e) m5
end
/-! ### webs and lots handed over -/
theorem depDs_le {n : Nat} : ∀ {ds : List D}, (∀ d ∈ ds, depD d ≤ n) → depDs ds ≤ n
  | [], _ => by rw [depDs]; omega
  | d :: ds, h => by
    have h1 := h d (by simp)
    have h2 := depDs_le (ds := ds) fun x hx => h x (List.mem_cons_of_mem _ hx)
    rw [depDs]; omega
theorem wids_of : ∀ {ds : List D}, (∀ d ∈ ds, wid d = true) → wids ds = true
  | [], _ => by rw [wids]
  | d :: ds, h => by
    rw [wids, h d (by simp), wids_of fun x hx => h x (List.mem_cons_of_mem _ hx)] <;> rfl
theorem map_idD {α : Type} {f : D → D} {e : α → D} {l : List α} (h : ∀ x ∈ l, f (e x) = e x) : (l.map e).map f = l.map e := by
  rw [List.map_map]; exact List.map_congr_left h
theorem inL_of {w : Web} {l : List Nat} (hw : w.Ok) (h : Lot w l) : InL w l (nT l) ∧ InL w l (listD (nT l)) := by
  have e1 : (l.map nD).map tupD = l.map nD := map_idD fun x _ => by simp [tupD]
  have e2 : (l.map nD).map listD = l.map nD := map_idD fun x _ => by simp [listD]
  have d0 : depDs (l.map nD) ≤ 0 := depDs_le fun d hd => by obtain ⟨x, _, rfl⟩ := List.mem_map.mp hd; simp [depD]
  have w0 : wids (l.map nD) = true := wids_of fun d hd => by obtain ⟨x, _, rfl⟩ := List.mem_map.mp hd; simp [wid]
  have hlen := lot_len hw h
  have hl : decide ((l.map nD).length ≤ 1000) = true := by rw [List.length_map]; exact decide_eq_true (by omega)
  refine ⟨⟨h, ?_, ?_, ?_⟩, ⟨h, ?_, ?_, ?_⟩⟩
  · show tupD (.tup (l.map nD)) = _
    rw [tupD, tupDs_map, e1] <;> rfl
  · show depD (.tup (l.map nD)) < 5
    rw [depD]; omega
  · show wid (.tup (l.map nD)) = true
    rw [wid, w0, hl]; rfl
  · show tupD (listD (.tup (l.map nD))) = _
    rw [listD, listDs_map, e2, tupD, tupDs_map, e1] <;> rfl
  · show depD (listD (.tup (l.map nD))) < 5
    rw [listD, listDs_map, e2, depD]; omega
  · show wid (listD (.tup (l.map nD))) = true
    rw [listD, listDs_map, e2, wid, w0, hl]; rfl
theorem inW_of {w : Web} (hw : w.Ok) : InW w (encW w) ∧ InW w (listD (encW w)) := by
  have hlen : decide ((w.gs.map encP).length ≤ 1000) = true := by rw [List.length_map]; have := hw.few; exact decide_eq_true (by omega)
  have hlen2 : decide ((w.gs.map fun p => D.lst [nD p.1, nD p.2]).length ≤ 1000) = true := by rw [List.length_map]; have := hw.few; exact decide_eq_true (by omega)
  have t1 : (w.gs.map encP).map tupD = w.gs.map encP := map_idD fun x _ => by simp [encP, tupD, tupDs]
  have t2 : (w.gs.map fun p => D.lst [nD p.1, nD p.2]).map tupD = w.gs.map encP := by
    rw [List.map_map]; exact List.map_congr_left fun x _ => by simp [encP, tupD, tupDs, listD, listDs]
  have l1 : (w.gs.map encP).map listD = w.gs.map fun p => D.lst [nD p.1, nD p.2] := by rw [List.map_map]; exact List.map_congr_left fun x _ => by simp [encP, listD, listDs]
  have d1 : depDs (w.gs.map encP) ≤ 1 := depDs_le fun d hd => by obtain ⟨x, _, rfl⟩ := List.mem_map.mp hd; simp [encP, depD, depDs]
  have d2 : depDs (w.gs.map fun p => D.lst [nD p.1, nD p.2]) ≤ 1 := depDs_le fun d hd => by obtain ⟨x, _, rfl⟩ := List.mem_map.mp hd; simp [encP, depD, depDs, listD, listDs]
  have w1 : wids (w.gs.map encP) = true := wids_of fun d hd => by obtain ⟨x, _, rfl⟩ := List.mem_map.mp hd; simp [encP, wid, wids]
  have w2 : wids (w.gs.map fun p => D.lst [nD p.1, nD p.2]) = true := wids_of fun d hd => by obtain ⟨x, _, rfl⟩ := List.mem_map.mp hd; simp [encP, wid, wids, listD, listDs]
  refine ⟨⟨hw, ?_, ?_, ?_⟩, ⟨hw, ?_, ?_, ?_⟩⟩
  · show tupD (.tup [nD w.many, .tup (w.gs.map encP)]) = _
    rw [tupD, tupDs, tupDs, tupDs, tupD, tupDs_map, t1, tupD] <;> first | rfl | simp
  · show depD (.tup [nD w.many, .tup (w.gs.map encP)]) < 5
    simp only [depD, depDs]; omega
  · show wid (.tup [nD w.many, .tup (w.gs.map encP)]) = true
    simp only [wid, wids, w1, hlen]; rfl
  · show tupD (listD (.tup [nD w.many, .tup (w.gs.map encP)])) = _
    simp only [listD, listDs, listDs_map, l1, tupD, tupDs, tupDs_map, t2]
  · show depD (listD (.tup [nD w.many, .tup (w.gs.map encP)])) < 5
    simp only [listD, listDs, listDs_map, l1, depD, depDs]; omega
  · show wid (listD (.tup [nD w.many, .tup (w.gs.map encP)])) = true
    simp only [listD, listDs, listDs_map, l1, wid, wids, w2, hlen2]; rfl
/-- what a door tells -/
def heardD (w : Web) (l : List Nat) : Nat → D
  | 0 => if (badIn w l).isEmpty = true then nT (orderInLot w l) else canD
  | 1 => ((badIn w l).head?.map nT).getD canD
  | 2 => if (barringIn w l).isEmpty = true then nT (orderInLot w (lotGrown w l)) else canD
  | _ => ((barringIn w l).head?.map nT).getD canD
def r__law_heard (ds : List D) (r : Option D) : Prop := ∃ (w : Web) (l : List Nat) (door : Nat), w.Ok ∧ Lot w l ∧ w.gs.length < 64 ∧ door < 4 ∧ ds = [nD door, encW w, nT l] ∧ r = some (heardD w l door)
section
variable {P : Program} {w : World} {K : PySem.W.Frag} {mg : Str → Option Value} {base : Heap} {C : Addr} {f : Addr} {fd : FuncData}
theorem cal__law_heard (T : Txt K mg C) (hE : ExcC K C) (hk : PySem.W.kitOne K (.ref C) (.type "ValueError") = some true) (Dx : DefAt K mg "_law_heard" s__law_heard f fd) (c_order_for : CalK P w K mg base 9 "order_for" ["web", "lot"] (spD C 2 r_order_for)) (c_why_not : CalK P w K mg base 9 "why_not" ["web", "lot"] (spD C 2 r_why_not)) (c_order_with : CalK P w K mg base 10 "order_with" ["web", "lot"] (spD C 2 r_order_with)) (c_why_never : CalK P w K mg base 9 "why_never" ["web", "lot"] (spD C 2 r_why_never)) : CalD P w K mg base 11 "_law_heard" ["_law_door", "_law_net", "_law_heap"] (spD C 3 r__law_heard) := by
  obtain ⟨f0, g0, h0⟩ := held_of c_order_for (j := 10) (by decide)
  obtain ⟨f1, g1, h1⟩ := held_of c_why_not (j := 10) (by decide)
  obtain ⟨f2, g2, h2⟩ := held_of c_order_with (j := 10) (by decide)
  obtain ⟨f3, g3, h3⟩ := held_of c_why_never (j := 10) (by decide)
  have hok : ∀ f sp, ((f = f0 ∧ sp = spD C 2 r_order_for) ∨ (f = f1 ∧ sp = spD C 2 r_why_not) ∨ (f = f2 ∧ sp = spD C 2 r_order_with) ∨ (f = f3 ∧ sp = spD C 2 r_why_never)) → HeldK P w K mg base 10 ["web", "lot"] f sp := fun f sp h => by
    rcases h with ⟨rfl, rfl⟩ | ⟨rfl, rfl⟩ | ⟨rfl, rfl⟩ | ⟨rfl, rfl⟩ <;> assumption
  refine mkCalX Dx sc__law_heard bd__law_heard (by decide) fun f cdv A outer s H E hr ds r hn hrel => have hu := hu_of hr; ⟨_, (pss_cons (ps_set (i := 3) sc__law_heard.nd rfl (Or.inl rfl) pe_non)
    (pss_cons (ps_try_as (i := 4) (c := .ref C) (tb := fun W => tAsg (tCallW _ W _ _) (gName 3)) (ts := tsE K C) rfl rfl sc__law_heard.nd rfl rfl ⟨by rfl, by decide, .inl T.can⟩ takesC (fun W pn xe tkW _ => pss_one (ps_set (i := 3) sc__law_heard.nd rfl (Or.inl rfl)
        (pe_callW hok hr tkW (pe_ix (ixL K) (pe_lst (pa_cons (pe_glob (v := .ref f0) (by rfl) g0 rfl) (pa_cons (pe_glob (v := .ref f1) (by rfl) g1 rfl) (pa_cons (pe_glob (v := .ref f2) (by rfl) g2 rfl) (pa_cons (pe_glob (v := .ref f3) (by rfl) g3 rfl) pa_nil))))) (pv 0) (fun _ _ => rfl)) (pk_cons (pv 2) (pk_cons (pv 1) pk_nil)))))
        (fun a oe cls d pn hz hf => ⟨fun pins s1 σ1 H1 D1 I1 hh => by
          obtain ⟨⟨rfl, rfl⟩, hh⟩ := hh
          exact (pss_cons (ps_set (i := 3) sc__law_heard.nd rfl (Or.inl rfl) (pe_lst (pa_cons pe_str (pa_cons (pe_callB (call_isE hE hz hf) (by rfl) T.isinstance (by decide +kernel) (pa_cons (pv 4) (pa_cons (pe_bltn (v := .ty "ValueError") (u := .type "ValueError") (by rfl) T.valueError (by decide +kernel) rfl) pa_nil))) pa_nil)))) pss_nil).run pins s1 σ1 H1 D1 I1 hh⟩))
    (pss_one (ps_ret (pv 3))))), ?_⟩
  obtain ⟨w, l, door, hw, hl, hn64, hd, rfl, rfl⟩ := hrel
  have hIW := (inW_of hw).1
  have hIL := (inL_of hw hl).1
  have hrn : ∀ l', Rnd w (othersIn w l') := fun l' => rnd_all hw othersLt (others_nodup l')
  have hmore : (l ++ (partsIn w (othersIn w l)).flatMap (grownMore w (othersIn w l))).length < 64 := by have := more_len hw hl; omega
  show Run C E _ [.va (nD door), .va (encW w), .va (nT l), .un, .un] _
  refine run_seq1 (run_set (ev_c fun _ => .non) rfl) ?_
  refine run_seq1 (ρ1 := [.va (nD door), .va (encW w), .va (nT l), .va (heardD w l door), .un]) ?_ (run_ret (ev_var rfl) rfl)
  have key : ∀ (fi : Addr) (rel : List D → Option D → Prop) (r : Option D), [D.ob f0, .ob f1, .ob f2, .ob f3][door]? = some (.ob fi) → ((fi = f0 ∧ spD C 2 rel = spD C 2 r_order_for) ∨ (fi = f1 ∧ spD C 2 rel = spD C 2 r_why_not) ∨ (fi = f2 ∧ spD C 2 rel = spD C 2 r_order_with) ∨ (fi = f3 ∧ spD C 2 rel = spD C 2 r_why_never)) → rel [encW w, nT l] r → heardD w l door = r.getD canD → _ := fun fi rel r e1 e2 e3 e4 =>
    run_heard (po := { (PoF (some (heardD w l door))) with nx := fun ρ' => ρ' = [.va (nD door), .va (encW w), .va (nT l), .va (heardD w l door), .un] }) (E := E) (te := tOp (rIxL K) (tLst (tCons (tC (.ref f0)) (tCons (tC (.ref f1)) (tCons (tC (.ref f2)) (tCons (tC (.ref f3)) tNil))))) (tVar 0)) (tk := tCons (tVar 2) (tCons (tVar 1) tNil)) (ok := fun f sp => (f = f0 ∧ sp = spD C 2 r_order_for) ∨ (f = f1 ∧ sp = spD C 2 r_why_not) ∨ (f = f2 ∧ sp = spD C 2 r_order_with) ∨ (f = f3 ∧ sp = spD C 2 r_why_never)) (a := encW w) (b := nT l) hk T.exm (ev_ixL (EvD.fz (ev_lst (xs := [D.ob f0, .ob f1, .ob f2, .ob f3]) (ea_cons (ev_c fun _ => .ob _) (ea_cons (ev_c fun _ => .ob _) (ea_cons (ev_c fun _ => .ob _) (ea_cons (ev_c fun _ => .ob _) ea_nil)))) (by simp))) (ev_var rfl) (atI_nat e1)) e2 (ea_cons (ev_var rfl) (ea_cons (ev_var rfl) ea_nil)) e3 (fun d e => by rw [e4, e]; rfl) (fun e => by rw [e4, e]; rfl)
  match door, hd with
  | 0, _ =>
    refine key f0 r_order_for _ rfl (.inl ⟨rfl, rfl⟩) ⟨w, l, _, _, hIW, hIL, hrn l, rfl, rfl⟩ ?_
    show (if _ then _ else _) = _
    split <;> rfl
  | 1, _ => exact key f1 r_why_not _ rfl (.inr (.inl ⟨rfl, rfl⟩)) ⟨w, l, _, _, hIW, hIL, rfl, rfl⟩ rfl
  | 2, _ =>
    refine key f2 r_order_with _ rfl (.inr (.inr (.inl ⟨rfl, rfl⟩))) ⟨w, l, _, _, hIW, hIL, hrn l, hmore, fun hb => ⟨grown_lot hl, hrn _, grown_bad hw hl hb⟩, rfl, rfl⟩ ?_
    show (if _ then _ else _) = _
    split <;> rfl
  | 3, _ => exact key f3 r_why_never _ rfl (.inr (.inr (.inr ⟨rfl, rfl⟩))) ⟨w, l, _, _, hIW, hIL, rfl, rfl⟩ rfl
end
end K17
end

section
set_option maxRecDepth 100000
set_option maxHeartbeats 4000000
namespace K17
open PySem PySem.Spec PyProof.Rows L2 DL MN
section
variable {P : Program} {w : World} {K : PySem.W.Frag} {mg : Str → Option Value} {base : Heap} {C : Addr} {f : Addr} {fd : FuncData}


/-! ### the papers, told to be right -/
theorem fine_can : fine canD = true := by decide +kernel
theorem dep_can : depF canD = 1 := by decide +kernel
theorem order_len {w : Web} {l : List Nat} (hw : w.Ok) (hl : Lot w l) (hb : badIn w l = []) : (orderInLot w l).length = w.gs.length := by
  have h := order_just hw hl hb
  unfold isJust at h
  rw [Bool.and_eq_true] at h
  exact (walk_lt h.1).2
theorem told_just {w : Web} {l : List Nat} (hw : w.Ok) (hl : Lot w l) : r__law_just [encW w, nT l, heardD w l 0] (some (.bl (badIn w l).isEmpty)) := by
  refine ⟨w, l, _, _, hw, ?_, rfl, rfl⟩
  have hf := hw.few
  show (∃ l', (if (badIn w l).isEmpty = true then nT (orderInLot w l) else canD) = nT l' ∧ _) ∨ _
  cases hb : badIn w l with
  | nil => exact .inl ⟨orderInLot w l, rfl, by rw [order_len hw hl hb]; omega, (order_just hw hl hb).symm⟩
  | cons p r => exact .inr ⟨[.str "can not", .bl true], by show (if (badIn w l).isEmpty = true then _ else _) = _; rw [hb]; rfl, rfl⟩
theorem told_all {w : Web} {l : List Nat} (hw : w.Ok) (hl : Lot w l) : r__law_all_of [encW w, nT l, heardD w l 2] (some (.bl (barringIn w l).isEmpty)) := by
  have hf := hw.few
  refine ⟨w, l, _, _, hw, by have := lot_len hw hl; omega, ?_, rfl, rfl⟩
  show (∃ l', (if (barringIn w l).isEmpty = true then nT (orderInLot w (lotGrown w l)) else canD) = nT l' ∧ _) ∨ _
  cases hb : barringIn w l with
  | nil => exact .inl ⟨orderInLot w (lotGrown w l), rfl, by rw [order_len hw (grown_lot hl) (grown_bad hw hl hb)]; omega, (grown_all hw hl hb).symm⟩
  | cons p r => exact .inr ⟨[.str "can not", .bl true], by show (if (barringIn w l).isEmpty = true then _ else _) = _; rw [hb]; rfl, rfl⟩
theorem rows_ok {w : Web} {l : List Nat} (hw : w.Ok) (f : List Nat → Bool) : ((lawParts w (othersIn w l)).filter f).length ≤ 1000 ∧ ∀ r ∈ (lawParts w (othersIn w l)).filter f, r.length ≤ 1000 := by
  have h := partsOk hw (othersLt (w := w) (L := l))
  have h1 := List.length_filter_le f (lawParts w (othersIn w l))
  have h2 := h.len
  refine ⟨by omega, fun r hr => ?_⟩
  have h3 := (perm_parts hw (othersLt (w := w) (L := l))).mem_iff.mp (List.mem_filter.mp hr).1
  have P := part_of hw othersLt h3
  have := len_of_lt P.nd P.lt
  have := hw.small
  omega
theorem told_one {w : Web} {l : List Nat} {rows bad : List (List Nat)} (hr : rows.length ≤ 1000 ∧ ∀ r ∈ rows, r.length ≤ 1000) (hm : ∀ p, p ∈ rows ↔ p ∈ bad) : r__law_one_of [(bad.head?.map nT).getD canD, .lst (rows.map nT)] (some (.bl (!bad.isEmpty))) := by
  refine ⟨_, rows, _, hr.1, hr.2, ?_, rfl, rfl⟩
  cases bad with
  | nil => exact .inr ⟨_, rfl, fine_can, by rw [show depF ((([] : List (List Nat)).head?.map nT).getD canD) = 1 from dep_can]; omega, rfl⟩
  | cons p r =>
    have hp := (hm p).mpr (by simp)
    exact .inl ⟨p, rfl, hr.2 p hp, by rw [decide_eq_true hp]; rfl⟩
theorem parts_nil {a b : List (List Nat)} (h : a = [] ↔ b = []) : a.isEmpty = b.isEmpty := by
  cases a <;> cases b <;> simp at h ⊢

def r__law_papers_right (ds : List D) (r : Option D) : Prop := ∃ (w : Web) (l : List Nat), w.Ok ∧ Lot w l ∧ w.gs.length < 64 ∧ ds = [encW w, nT l] ∧ r = some (.bl true)
theorem cal__law_papers_right (T : Txt K mg C) (Dx : DefAt K mg "_law_papers_right" s__law_papers_right f fd) (c__law_all_of : CalD P w K mg base 3 "_law_all_of" ["_law_net", "_law_heap", "_law_matter"] (spD C 3 r__law_all_of)) (c__law_barred_by : CalD P w K mg base 3 "_law_barred_by" ["_law_net", "_law_heap"] (spD C 2 r__law_barred_by)) (c__law_bars : CalD P w K mg base 3 "_law_bars" ["_law_net", "_law_heap"] (spD C 2 r__law_bars)) (c__law_heard : CalD P w K mg base 11 "_law_heard" ["_law_door", "_law_net", "_law_heap"] (spD C 3 r__law_heard)) (c__law_just : CalD P w K mg base 3 "_law_just" ["_law_net", "_law_heap", "_law_matter"] (spD C 3 r__law_just)) (c__law_lists : CalD P w K mg base 6 "_law_lists" ["_law_matter"] (spD C 1 r__law_lists)) (c__law_one_of : CalD P w K mg base 7 "_law_one_of" ["_law_matter", "_law_rows_so"] (spD C 2 r__law_one_of)) (c__law_same : CalD P w K mg base 6 "_law_same" ["_law_got", "_law_due"] (spD C 2 r__law_same)) (c_can_be_without : CalK P w K mg base 9 "can_be_without" ["web", "lot"] (spD C 2 r_can_be_without)) (c_can_together : CalK P w K mg base 9 "can_together" ["web", "lot"] (spD C 2 r_can_together)) : CalD P w K mg base 12 "_law_papers_right" ["_law_net", "_law_heap"] (spD C 2 r__law_papers_right) := by
  refine mkCal Dx sc__law_papers_right bd__law_papers_right (by decide) fun f cdv A outer s H E hr => have hu := hu_of hr; ⟨_, (pss_cons (ps_par (i := 2) (j := 3) rfl sc__law_papers_right.nd rfl rfl (by decide) rfl rfl (pa_cons (pe_d c__law_bars hr (by decide) (by rfl) (pa_cons (pv 0) (pa_cons (pv 1) pa_nil))) (pa_cons (pe_d c__law_barred_by hr (by decide) (by rfl) (pa_cons (pv 0) (pa_cons (pv 1) pa_nil))) pa_nil)) (by rfl))
      (pss_cons (ps_set (i := 4) sc__law_papers_right.nd rfl (Or.inl rfl) (pe_lst (pa_cons (pe_dK c_can_be_without hr (by decide) (by rfl) passL (pk_cons (pe_d c__law_lists hr (by decide) (by rfl) (pa_cons (pv 1) pa_nil)) (pk_cons (pv 0) pk_nil))) (pa_cons (pe_dK c_can_together hr (by decide) (by rfl) passL (pk_cons (pv 1) (pk_cons (pe_d c__law_lists hr (by decide) (by rfl) (pa_cons (pv 0) pa_nil)) pk_nil))) pa_nil))))
      (pss_cons (ps_if (pt_not (pt_val (pe_d c__law_same hr (by decide) (by rfl) (pa_cons (pv 4) (pa_cons (pe_lst (pa_cons (pe_cmpR (opEqD K hr) (pv 2) (pe_lst pa_nil) (nomark _)) (pa_cons (pe_cmpR (opEqD K hr) (pv 3) (pe_lst pa_nil) (nomark _)) pa_nil))) pa_nil))))) (pss_one (ps_ret pe_bl)) pss_nil)
      (pss_cons (ps_setLc (i := 5) rfl sc__law_papers_right.nd rfl rfl (sw_true rfl rfl rfl (by decide +kernel)) (own := [("_law_door", 6)]) (pi_range1 rfl T.range (pa_cons pe_int pa_nil)) (blkOk_by rfl) (fun _ _ _ _ _ => (pg_name (i := 6) sc__law_papers_right.nd rfl (Or.inl rfl))) (fun _ _ _ _ _ => pts_nil) (fun _ _ _ _ _ => (pe_d c__law_heard hr (by decide) (by rfl) (pa_cons (pv 6) (pa_cons (pv 0) (pa_cons (pv 1) pa_nil))))))
      (pss_cons (ps_set (i := 7) sc__law_papers_right.nd rfl (Or.inl rfl) (pe_lst (pa_cons (pe_d c__law_just hr (by decide) (by rfl) (pa_cons (pv 0) (pa_cons (pv 1) (pa_cons (pe_ix (ixL K) (pv 5) pe_int (fun _ _ => rfl)) pa_nil)))) (pa_cons (pe_d c__law_one_of hr (by decide) (by rfl) (pa_cons (pe_ix (ixL K) (pv 5) pe_int (fun _ _ => rfl)) (pa_cons (pv 2) pa_nil))) (pa_cons (pe_d c__law_all_of hr (by decide) (by rfl) (pa_cons (pv 0) (pa_cons (pv 1) (pa_cons (pe_ix (ixL K) (pv 5) pe_int (fun _ _ => rfl)) pa_nil)))) (pa_cons (pe_d c__law_one_of hr (by decide) (by rfl) (pa_cons (pe_ix (ixL K) (pv 5) pe_int (fun _ _ => rfl)) (pa_cons (pv 3) pa_nil))) pa_nil))))))
      (pss_cons (ps_if (pt_not (pt_val (pe_d c__law_same hr (by decide) (by rfl) (pa_cons (pv 7) (pa_cons (pe_lst (pa_cons (pe_cmpR (opEqD K hr) (pv 2) (pe_lst pa_nil) (nomark _)) (pa_cons (pe_cmpR (opNeD K hr) (pv 2) (pe_lst pa_nil) (nomark _)) (pa_cons (pe_cmpR (opEqD K hr) (pv 3) (pe_lst pa_nil) (nomark _)) (pa_cons (pe_cmpR (opNeD K hr) (pv 3) (pe_lst pa_nil) (nomark _)) pa_nil))))) pa_nil))))) (pss_one (ps_ret pe_bl)) pss_nil)
      (pss_one (ps_ret (pe_d c__law_same hr (by decide) (by rfl) (pa_cons (pe_lc (own := [("_law_own", 8), ("_law_its", 9)]) rfl sc__law_papers_right.nd (piZip K (by rfl) T.zip (pa_cons (pv 5) (pa_cons (pv 7) pa_nil))) (blkOk_by rfl) (fun _ _ _ _ _ => (pgT K (n := 2) (pgs_cons (pg_name (i := 8) sc__law_papers_right.nd rfl (Or.inl rfl)) (pgs_cons (pg_name (i := 9) sc__law_papers_right.nd rfl (Or.inl rfl)) pgs_nil)))) (fun _ _ _ _ _ => (pts_one (pt_not (pt_val (pv 9))))) (fun _ _ _ _ _ => (pv 8))) (pa_cons (pe_op op_rep (pe_lst (pa_cons (pe_lst (pa_cons pe_str (pa_cons pe_bl pa_nil))) pa_nil)) pe_int) pa_nil))))))))))), ?_⟩
  rintro ds r _ ⟨w, l, hw, hl, h64, rfl, rfl⟩
  show Run C E _ [.va (encW w), .va (nT l), .un, .un, .un, .un, .un, .un, .un, .un] _
  have pok := partsOk hw (othersLt (w := w) (L := l))
  have hlen := lot_len hw hl
  have hIW := inW_of hw
  have hIL := inL_of hw hl
  have e1 : ((lawBars w l).map nT).isEmpty = (badIn w l).isEmpty := by rw [isEmpty_parts]; exact parts_nil (bars_nil hw)
  have e2 : ((lawBarredBy w l).map nT).isEmpty = (barringIn w l).isEmpty := by rw [isEmpty_parts]; exact parts_nil (barred_nil hw)
  refine run_seq1 (run_par (ea_cons (ev_callD (ds := [_, _]) (ea_cons (ev_var rfl) (ea_cons (ev_var rfl) ea_nil)) ⟨w, l, hw, hl.lt, hlen, pok, rfl, rfl⟩ rfl) (ea_cons (ev_callD (ds := [_, _]) (ea_cons (ev_var rfl) (ea_cons (ev_var rfl) ea_nil)) ⟨w, l, hw, hl.lt, hlen, pok, rfl, rfl⟩ rfl) ea_nil)) rfl (by decide)) ?_
  refine run_seq1 (run_set (EvD.fz (ev_lst (xs := [.bl (badIn w l).isEmpty, .bl (barringIn w l).isEmpty]) (ea_cons (ev_callR (ea_cons (ev_callD (ds := [_]) (ea_cons (ev_var rfl) ea_nil) ⟨_, hIL.1.dep, hIL.1.wid, rfl, rfl⟩ rfl) (ea_cons (ev_var rfl) ea_nil)) ⟨w, l, _, _, hIW.1, hIL.2, rfl, rfl⟩) (ea_cons (ev_callR (ea_cons (ev_var rfl) (ea_cons (ev_callD (ds := [_]) (ea_cons (ev_var rfl) ea_nil) ⟨_, hIW.1.dep, hIW.1.wid, rfl, rfl⟩ rfl) ea_nil)) ⟨w, l, _, _, hIW.2, hIL.1, rfl, rfl⟩) ea_nil)) (by simp))) rfl) ?_
  refine run_seq1 (run_if (b := false) (et_not (b := true) (et_test (EvD.is (ev_callD (ds := [_, _]) (ea_cons (ev_var rfl) (ea_cons (EvD.fz (ev_lst (xs := [.bl (badIn w l).isEmpty, .bl (barringIn w l).isEmpty]) (ea_cons (EvD.is (ev_op (ev_var rfl) (EvD.fz (ev_lst (xs := []) ea_nil (by simp))) (opv_eq_nil (eqOk_parts _))) (by rw [e1])) (ea_cons (EvD.is (ev_op (ev_var rfl) (EvD.fz (ev_lst (xs := []) ea_nil (by simp))) (opv_eq_nil (eqOk_parts _))) (by rw [e2])) ea_nil)) (by simp))) ea_nil)) ⟨_, _, rfl, rfl, by simp [depF, depFs], by simp [depF, depFs], by simp [depF, depFs], rfl, rfl⟩ rfl) (by simp [sameD, sameDs])))) (fun z => by cases z) fun _ => run_next rfl) ?_
  have hp4 : ((4 : Int).toNat) = 4 := rfl
  refine run_seq1 (run_set (EvD.fz (ev_lcM (List.range 4) nD (fun k => heardD w l k) (fun k => [.va (encW w), .va (nT l), .va (.lst ((lawBars w l).map nT)), .va (.lst ((lawBarredBy w l).map nT)), .va (.lst [.bl (badIn w l).isEmpty, .bl (barringIn w l).isEmpty]), .un, .va (nD k), .un, .un, .un]) (ei_range1 (n := 4) (ea_cons (ev_c fun _ => .int _) ea_nil) (by simp)) (by simp) rfl (fun x _ => eg_name 6) (fun x hx => ev_callD (ds := [_, _, _]) (ea_cons (ev_var rfl) (ea_cons (ev_var rfl) (ea_cons (ev_var rfl) ea_nil))) ⟨w, l, x, hw, hl, h64, List.mem_range.mp hx, rfl, rfl⟩ rfl) (fun _ _ => rfl) (by simp))) rfl) ?_
  have one1 := told_one (w := w) (l := l) (rows_ok (l := l) hw (isBars w l)) (fun p => mem_bars (L := l) hw)
  have one2 := told_one (w := w) (l := l) (rows_ok (l := l) hw (isBarred w l)) (fun p => mem_barred (L := l) hw)
  refine run_seq1 (run_set (EvD.fz (ev_lst (xs := [.bl (badIn w l).isEmpty, .bl (!(badIn w l).isEmpty), .bl (barringIn w l).isEmpty, .bl (!(barringIn w l).isEmpty)]) (ea_cons (ev_callD (ds := [_, _, _]) (ea_cons (ev_var rfl) (ea_cons (ev_var rfl) (ea_cons (ev_ixL (ev_var rfl) (ev_c fun _ => .int _) (atI_nat (j := 0) rfl)) ea_nil))) (told_just hw hl) rfl)
    (ea_cons (ev_callD (ds := [_, _]) (ea_cons (ev_ixL (ev_var rfl) (ev_c fun _ => .int _) (atI_nat (j := 1) rfl)) (ea_cons (ev_var rfl) ea_nil)) one1 rfl)
    (ea_cons (ev_callD (ds := [_, _, _]) (ea_cons (ev_var rfl) (ea_cons (ev_var rfl) (ea_cons (ev_ixL (ev_var rfl) (ev_c fun _ => .int _) (atI_nat (j := 2) rfl)) ea_nil))) (told_all hw hl) rfl)
    (ea_cons (ev_callD (ds := [_, _]) (ea_cons (ev_ixL (ev_var rfl) (ev_c fun _ => .int _) (atI_nat (j := 3) rfl)) (ea_cons (ev_var rfl) ea_nil)) one2 rfl) ea_nil)))) (by simp))) rfl) ?_
  refine run_seq1 (run_if (b := false) (et_not (b := true) (et_test (EvD.is (ev_callD (ds := [_, _]) (ea_cons (ev_var rfl) (ea_cons (EvD.fz (ev_lst (xs := [.bl (badIn w l).isEmpty, .bl (!(badIn w l).isEmpty), .bl (barringIn w l).isEmpty, .bl (!(barringIn w l).isEmpty)])
    (ea_cons (EvD.is (ev_op (ev_var rfl) (EvD.fz (ev_lst (xs := []) ea_nil (by simp))) (opv_eq_nil (eqOk_parts _))) (by rw [e1])) (ea_cons (EvD.is (ev_op (ev_var rfl) (EvD.fz (ev_lst (xs := []) ea_nil (by simp))) (opv_ne_nil (eqOk_parts _))) (by rw [e1]))
    (ea_cons (EvD.is (ev_op (ev_var rfl) (EvD.fz (ev_lst (xs := []) ea_nil (by simp))) (opv_eq_nil (eqOk_parts _))) (by rw [e2])) (ea_cons (EvD.is (ev_op (ev_var rfl) (EvD.fz (ev_lst (xs := []) ea_nil (by simp))) (opv_ne_nil (eqOk_parts _))) (by rw [e2])) ea_nil)))) (by simp))) ea_nil)) ⟨_, _, rfl, rfl, by simp [depF, depFs], by simp [depF, depFs], by simp [depF, depFs], rfl, rfl⟩ rfl) (by simp [sameD, sameDs])))) (fun z => by cases z) fun _ => run_next rfl) ?_
  have h4 : ([(heardD w l 0, (badIn w l).isEmpty), (heardD w l 1, !(badIn w l).isEmpty), (heardD w l 2, (barringIn w l).isEmpty), (heardD w l 3, !(barringIn w l).isEmpty)].filter fun p => !p.2).map (·.1) = [canD, canD] := by
    unfold heardD
    cases badIn w l <;> cases barringIn w l <;> rfl
  have z : EvI (RZ.iZipA K (tCons (tVar 5) (tCons (tVar 7) tNil))) [.va (encW w), .va (nT l), .va (.lst ((lawBars w l).map nT)), .va (.lst ((lawBarredBy w l).map nT)), .va (.lst [.bl (badIn w l).isEmpty, .bl (barringIn w l).isEmpty]), .va (.lst ((List.range 4).map fun k => heardD w l k)), .un, .va (.lst [.bl (badIn w l).isEmpty, .bl (!(badIn w l).isEmpty), .bl (barringIn w l).isEmpty, .bl (!(barringIn w l).isEmpty)]), .un, .un] [.va (encW w), .va (nT l), .va (.lst ((lawBars w l).map nT)), .va (.lst ((lawBarredBy w l).map nT)), .va (.lst [.bl (badIn w l).isEmpty, .bl (barringIn w l).isEmpty]), .va (.lst ((List.range 4).map fun k => heardD w l k)), .un, .va (.lst [.bl (badIn w l).isEmpty, .bl (!(badIn w l).isEmpty), .bl (barringIn w l).isEmpty, .bl (!(barringIn w l).isEmpty)]), .un, .un] (zipD ((List.range 4).map fun k => heardD w l k) [.bl (badIn w l).isEmpty, .bl (!(badIn w l).isEmpty), .bl (barringIn w l).isEmpty, .bl (!(barringIn w l).isEmpty)]) := ei_zipL (ea_cons (ev_var rfl) (ea_cons (ev_var rfl) ea_nil))
  show Run C E _ [.va (encW w), .va (nT l), .va (.lst ((lawBars w l).map nT)), .va (.lst ((lawBarredBy w l).map nT)), .va (.lst [.bl (badIn w l).isEmpty, .bl (barringIn w l).isEmpty]), .va (.lst ((List.range 4).map fun k => heardD w l k)), .un, .va (.lst [.bl (badIn w l).isEmpty, .bl (!(badIn w l).isEmpty), .bl (barringIn w l).isEmpty, .bl (!(barringIn w l).isEmpty)]), .un, .un] _
  refine run_ret (EvD.is (ev_callD (ds := [.lst [canD, canD], .lst [canD, canD]]) (ea_cons (EvD.is (EvD.fz (ev_lcP (vs := [8, 9]) [(heardD w l 0, (badIn w l).isEmpty), (heardD w l 1, !(badIn w l).isEmpty), (heardD w l 2, (barringIn w l).isEmpty), (heardD w l 3, !(barringIn w l).isEmpty)] (fun p => .tup [p.1, .bl p.2]) (fun p => !p.2) (fun p => p.1)
      (fun p => [.va (encW w), .va (nT l), .va (.lst ((lawBars w l).map nT)), .va (.lst ((lawBarredBy w l).map nT)), .va (.lst [.bl (badIn w l).isEmpty, .bl (barringIn w l).isEmpty]), .va (.lst ((List.range 4).map fun k => heardD w l k)), .un, .va (.lst [.bl (badIn w l).isEmpty, .bl (!(badIn w l).isEmpty), .bl (barringIn w l).isEmpty, .bl (!(barringIn w l).isEmpty)]), .va p.1, .va (.bl p.2)])
      z (by simp) rfl (fun x _ => eg_tup (egs_name (egs_name egs_nil)) rfl) (fun x _ => et_not (et_test (ev_var rfl))) (fun x _ _ => ev_var rfl) (fun _ _ => rfl) (by simp))) (d' := .lst [canD, canD]) (by rw [h4]))
      (ea_cons (EvD.fz (ev_opO (EvD.fz (ev_lst (xs := [canD]) (ea_cons (EvD.fz (ev_lst (xs := [.str "can not", .bl true]) (ea_cons (ev_c fun _ => .str _) (ea_cons (ev_c fun _ => .bl _) ea_nil)) (by simp))) ea_nil) (by simp))) (ev_c (d := nD 2) fun _ => .int _) (opo_rep (by simp) (by omega)))) ea_nil)) ⟨.lst [canD, canD], .lst [canD, canD], by decide +kernel, by decide +kernel, by decide +kernel, by decide +kernel, by decide +kernel, rfl, rfl⟩ rfl) (d' := .bl true) (by rw [show sameD (.lst [canD, canD]) (.lst [canD, canD]) = true from by decide +kernel])) rfl
end
end K17
end

section
set_option maxRecDepth 100000
set_option maxHeartbeats 4000000
namespace K17
open PySem PySem.Spec PyProof.Rows L2 DL MN
section
variable {P : Program} {w : World} {K : PySem.W.Frag} {mg : Str → Option Value} {base : Heap} {C : Addr} {f : Addr} {fd : FuncData}


/-! ### a web and a walk, drawn, told to be right -/
def rightS (s : TinS) : TinS :=
  (keepF (lawLacking (lawRun (netF s).1 (pickF (netF s).1.gs.length (List.range (netF s).1.gs.length) (netF s).2).1)) (takeF (netF s).1.gs.length (pickF (netF s).1.gs.length (List.range (netF s).1.gs.length) (netF s).2).2).2).2
theorem keepF_snoc (a : Nat) : ∀ (l : List Nat) (s : TinS), keepF (l ++ [a]) s = (if (takeF 2 (keepF l s).2).1 = 0 then (keepF l s).1 ++ [a] else (keepF l s).1, (takeF 2 (keepF l s).2).2)
  | [], s => by
    show keepF [a] s = _
    rw [keepF, keepF, keepF] <;> rfl
  | b :: l, s => by
    rw [List.cons_append, keepF, keepF_snoc a l, keepF]
    simp only
    by_cases h1 : (takeF 2 s).1 = 0 <;> by_cases h2 : (takeF 2 (keepF l (takeF 2 s).2).2).1 = 0 <;> simp [h1, h2]
theorem made_keep (l : List Nat) (s : TinS) : ∀ i, i ≤ l.length → made (fun i => decide ((takeF 2 (keepF (l.take i) s).2).1 = 0)) (fun i => nD (l.getD i 0)) i = (keepF (l.take i) s).1.map nD
  | 0, _ => by simp [made, keepF]
  | i + 1, h => by
    have e : l.take (i + 1) = l.take i ++ [l.getD i 0] := by
      rw [List.take_succ, List.getD_eq_getElem?_getD, List.getElem?_eq_getElem (by omega)] <;> rfl
    rw [made_succ, made_keep l s i (by omega), e, keepF_snoc]
    simp only
    by_cases c : (takeF 2 (keepF (l.take i) s).2).1 = 0
    · rw [if_pos c, if_pos (decide_eq_true c), List.map_append] <;> rfl
    · rw [if_neg c, if_neg (by simp [c])]
theorem flat_len100 {f : List Nat → List Nat} : ∀ (l : List (List Nat)), (∀ x ∈ l, (f x).length ≤ 100) → (l.flatMap f).length ≤ 100 * l.length
  | [], _ => by simp
  | a :: l, h => by
    have h1 := h a (by simp)
    have h2 := flat_len100 l fun x hx => h x (List.mem_cons_of_mem _ hx)
    rw [List.flatMap_cons, List.length_append, List.length_cons]
    omega
theorem nL_app (a b : List Nat) : nL (a ++ b) = .lst (a.map nD ++ b.map nD) := by
  show D.lst _ = _
  rw [List.map_append]
theorem run_weak {C : Addr} {E : XK} {ts : TS} {ρ : En} {po : Po} (vs : List Nat) (h : Run C E ts (wipeE ρ vs) po) : Run C E ts ρ po := fun t G0 H0 G H σ m Ds s => h t G0 H0 G H σ (by
  have z := (m.nil.wipe m.len vs).unwipe m.len
  rw [List.append_nil, List.append_nil] at z
  exact z) Ds s
theorem turned_lot {w : Web} {l : List Nat} (hl : Lot w l) {k : Nat} (hk : k < w.gs.length) : Lot w (if k ∈ l then l.filter (fun x => !decide (x = k)) else srt (l ++ [k])) := by
  split
  · exact sub_lot hl List.filter_sublist
  · rename_i h
    have nd : (l ++ [k]).Nodup := List.nodup_append.mpr ⟨hl.asc.imp fun h e => by omega, by simp, fun x hx y hy e => by
      rw [List.mem_singleton] at hy
      subst hy
      exact h (e ▸ hx)⟩
    refine ⟨fun g hg => ?_, asc_of (srt_sorted _) ((srt_perm _).nodup_iff.mpr nd)⟩
    rcases List.mem_append.mp ((srt_perm _).mem_iff.mp hg) with h | h
    · exact hl.lt g h
    · rw [List.mem_singleton.mp h]; exact hk

def r__law_right (s0 : D) (ds : List D) (s1 : D) (d : D) : Prop := ∃ s : TinS, TinOk 500 s ∧ s0 = encT s ∧ ds = [] ∧ s1 = encT (rightS s) ∧ d = .bl true
theorem cal__law_right (T : Txt K mg C) (Dx : DefAt K mg "_law_right" s__law_right f fd) (c__law_are_within : CalD P w K mg base 1 "_law_are_within" ["_law_heap", "_law_wide_so"] (spD C 2 r__law_are_within)) (c__law_bars : CalD P w K mg base 3 "_law_bars" ["_law_net", "_law_heap"] (spD C 2 r__law_bars)) (c__law_free_in : CalD P w K mg base 2 "_law_free_in" ["_law_net", "_law_heap", "_law_part_so"] (spD C 3 r__law_free_in)) (c__law_great_net : CalD P w K mg base 3 "_law_great_net" ["_law_tin"] (spT 0 r__law_great_net)) (c__law_is_heap : CalD P w K mg base 1 "_law_is_heap" ["_law_many_so", "_law_matter"] (spD C 2 r__law_is_heap)) (c__law_lacking : CalD P w K mg base 1 "_law_lacking" ["_law_seats"] (spD C 1 r__law_lacking)) (c__law_lists : CalD P w K mg base 6 "_law_lists" ["_law_matter"] (spD C 1 r__law_lists)) (c__law_others : CalD P w K mg base 1 "_law_others" ["_law_net", "_law_heap"] (spD C 2 r__law_others)) (c__law_papers_right : CalD P w K mg base 12 "_law_papers_right" ["_law_net", "_law_heap"] (spD C 2 r__law_papers_right)) (c__law_part_kind : CalD P w K mg base 2 "_law_part_kind" ["_law_net", "_law_heap", "_law_part_so"] (spD C 3 r__law_part_kind)) (c__law_parts : CalD P w K mg base 1 "_law_parts" ["_law_net", "_law_heap"] (spD C 2 r__law_parts)) (c__law_run : CalD P w K mg base 2 "_law_run" ["_law_net", "_law_walk_here"] (spD C 2 r__law_run)) (c__law_same : CalD P w K mg base 6 "_law_same" ["_law_got", "_law_due"] (spD C 2 r__law_same)) (c__law_take : CalD P w K mg base 1 "_law_take" ["_law_tin", "_law_below_so"] (spT 1 r__law_take)) (c__law_walk : CalD P w K mg base 3 "_law_walk" ["_law_tin", "_law_many_so"] (spT 1 r__law_walk)) (c_can_be_without : CalD P w K mg base 9 "can_be_without" ["web", "lot"] (spD C 2 r_can_be_without)) (c_how_many_free : CalK P w K mg base 9 "how_many_free" ["web", "lot"] (spD C 2 r_how_many_free)) (c_lot_with : CalK P w K mg base 10 "lot_with" ["web", "lot"] (spD C 2 r_lot_with)) (c_spare_places : CalK P w K mg base 9 "spare_places" ["web", "lot"] (spD C 2 r_spare_places)) : CalD P w K mg base 13 "_law_right" ["_law_tin"] (spT 0 r__law_right) := by
  refine mkCalT (C := C) Dx sc__law_right bd__law_right rfl (by decide) fun f cdv A outer s H E hr => have hu := hu_of hr; ⟨_, (pss_cons (ps_set (i := 1) sc__law_right.nd rfl (Or.inr rfl) (pe_d c__law_great_net hr (by decide) (by rfl) (pa_cons (pv 0) pa_nil)))
      (pss_cons (ps_set (i := 2) sc__law_right.nd rfl (Or.inl rfl) (pe_d c__law_walk hr (by decide) (by rfl) (pa_cons (pv 0) (pa_cons (pe_callB (crLen K) (by rfl) T.len PySem.boot_len (pa_cons (pe_ix (ixT K) (pv 1) pe_int (fun _ _ => rfl)) pa_nil)) pa_nil))))
      (pss_cons (ps_set (i := 3) sc__law_right.nd rfl (Or.inr rfl) (pe_d c__law_run hr (by decide) (by rfl) (pa_cons (pv 1) (pa_cons (pv 2) pa_nil))))
      (pss_cons (ps_set (i := 4) sc__law_right.nd rfl (Or.inl rfl) (pe_d c__law_lacking hr (by decide) (by rfl) (pa_cons (pv 3) pa_nil)))
      (pss_cons (ps_setLc (i := 5) rfl sc__law_right.nd rfl rfl (sw_true rfl rfl rfl (by decide +kernel)) (own := [("_law_spot", 6)]) (pi_range1 rfl T.range (pa_cons (pe_ix (ixT K) (pv 1) pe_int (fun _ _ => rfl)) pa_nil)) (blkOk_by rfl) (fun _ _ _ _ _ => (pg_name (i := 6) sc__law_right.nd rfl (Or.inl rfl))) (fun _ _ _ _ _ => (pts_one (pt_cmpR (opNi K) (pv 6) (pv 3) rfl))) (fun _ _ _ _ _ => (pv 6)))
      (pss_cons (ps_if (pt_not (pt_val (pe_d c__law_same hr (by decide) (by rfl) (pa_cons (pe_lst (pa_cons (pe_dK c_how_many_free hr (by decide) (by rfl) passL (pk_cons (pv 4) (pk_cons (pe_d c__law_lists hr (by decide) (by rfl) (pa_cons (pv 1) pa_nil)) pk_nil))) (pa_cons (pe_d c_can_be_without hr (by decide) (by rfl) (pa_cons (pv 1) (pa_cons (pv 4) pa_nil))) pa_nil))) (pa_cons (pe_lst (pa_cons (pe_callB (crLen K) (by rfl) T.len PySem.boot_len (pa_cons (pv 5) pa_nil)) (pa_cons pe_bl pa_nil))) pa_nil))))) (pss_one (ps_ret pe_bl)) pss_nil)
      (pss_cons (ps_set (i := 7) sc__law_right.nd rfl (Or.inl rfl) (pe_dK c_spare_places hr (by decide) (by rfl) passL (pk_cons (pe_d c__law_lists hr (by decide) (by rfl) (pa_cons (pv 4) pa_nil)) (pk_cons (pv 1) pk_nil))))
      (pss_cons (ps_par (i := 8) (j := 9) rfl sc__law_right.nd rfl rfl (by decide) rfl rfl (pa_cons (pe_d c__law_others hr (by decide) (by rfl) (pa_cons (pv 1) (pa_cons (pv 4) pa_nil))) (pa_cons (pe_lst pa_nil) pa_nil)) (by rfl))
      (pss_cons (ps_for PassesOwn.never rfl (piL K (pe_d c__law_parts hr (by decide) (by rfl) (pa_cons (pv 1) (pa_cons (pv 8) pa_nil)))) (pg_name (i := 10) sc__law_right.nd rfl (Or.inl rfl)) (pss_one (ps_set (i := 9) sc__law_right.nd rfl (Or.inl rfl) (pe_op op_cat (pv 9) (pe_ifExp (pt_cmpR op_eq (pe_d c__law_part_kind hr (by decide) (by rfl) (pa_cons (pv 1) (pa_cons (pv 8) (pa_cons (pv 10) pa_nil)))) pe_str (nomark _)) (pe_d c__law_free_in hr (by decide) (by rfl) (pa_cons (pv 1) (pa_cons (pv 4) (pa_cons (pv 10) pa_nil)))) (pe_lst pa_nil))))))
      (pss_cons (ps_if (PW.pt (pw_or (pt_not (pt_val (pe_d c__law_same hr (by decide) (by rfl) (pa_cons (pv 7) (pa_cons (pe_callTy (crTup K) (by rfl) T.tuple (by decide +kernel) (pa_cons (pe_callB (crSorted K) (by rfl) T.sorted (by decide +kernel) (pa_cons (pv 9) pa_nil)) pa_nil)) pa_nil))))) (pw_or1 (pt_not (pt_val (pe_d c__law_are_within hr (by decide) (by rfl) (pa_cons (pv 5) (pa_cons (pv 9) pa_nil)))))))) (pss_one (ps_ret pe_bl)) pss_nil)
      (pss_cons (ps_set (i := 11) sc__law_right.nd rfl (Or.inr rfl) (pe_d c__law_take hr (by decide) (by rfl) (pa_cons (pv 0) (pa_cons (pe_callB (crLen K) (by rfl) T.len PySem.boot_len (pa_cons (pe_ix (ixT K) (pv 1) pe_int (fun _ _ => rfl)) pa_nil)) pa_nil))))
      (pss_cons (ps_set (i := 12) sc__law_right.nd rfl (Or.inl rfl) (pe_ifExp (pt_cmpR (opIn K) (pv 11) (pv 4) rfl) (pe_callTy (crTup K) (by rfl) T.tuple (by decide +kernel) (pa_cons (pe_lc (own := [("_law_own", 10)]) rfl sc__law_right.nd (piT K (pv 4)) (blkOk_by rfl) (fun _ _ _ _ _ => (pg_name (i := 10) sc__law_right.nd rfl (Or.inl rfl))) (fun _ _ _ _ _ => (pts_one (pt_cmpR op_ne (pv 10) (pv 11) (nomark _)))) (fun _ _ _ _ _ => (pv 10))) pa_nil)) (pe_callTy (crTup K) (by rfl) T.tuple (by decide +kernel) (pa_cons (pe_callB (crSortTI K) (by rfl) T.sorted (by decide +kernel) (pa_cons (pe_op (opCatT K) (pv 4) (pe_tup (pa_cons (pv 11) pa_nil))) pa_nil)) pa_nil))))
      (pss_cons (ps_set (i := 13) sc__law_right.nd rfl (Or.inl rfl) (pe_callTy (crTup K) (by rfl) T.tuple (by decide +kernel) (pa_cons (pe_lc (own := [("_law_own", 10)]) rfl sc__law_right.nd (piT K (pv 4)) (blkOk_by rfl) (fun _ _ _ _ _ => (pg_name (i := 10) sc__law_right.nd rfl (Or.inl rfl))) (fun _ _ _ _ _ => (pts_one (pt_cmpR op_eq (pe_d c__law_take hr (by decide) (by rfl) (pa_cons (pv 0) (pa_cons pe_int pa_nil))) pe_int (nomark _)))) (fun _ _ _ _ _ => (pv 10))) pa_nil)))
      (pss_cons (ps_set (i := 14) sc__law_right.nd rfl (Or.inl rfl) (pe_dK c_lot_with hr (by decide) (by rfl) passL (pk_cons (pe_d c__law_lists hr (by decide) (by rfl) (pa_cons (pv 13) pa_nil)) (pk_cons (pv 1) pk_nil))))
      (pss_cons (ps_if (PW.pt (pw_or (pt_not (pt_val (pe_d c__law_is_heap hr (by decide) (by rfl) (pa_cons (pe_callB (crLen K) (by rfl) T.len PySem.boot_len (pa_cons (pe_ix (ixT K) (pv 1) pe_int (fun _ _ => rfl)) pa_nil)) (pa_cons (pv 14) pa_nil))))) (pw_or (pt_not (pt_val (pe_d c__law_are_within hr (by decide) (by rfl) (pa_cons (pv 13) (pa_cons (pv 14) pa_nil))))) (pw_or1 (pt_cmpR (opNeD K hr) (pe_d c__law_bars hr (by decide) (by rfl) (pa_cons (pv 1) (pa_cons (pv 14) pa_nil))) (pe_lst pa_nil) (nomark _)))))) (pss_one (ps_ret pe_bl)) pss_nil)
      (pss_one (ps_ret (pe_callB (crAll K) (by rfl) T.all (by decide +kernel) (pa_cons (pe_lc (own := [("_law_own", 10)]) rfl sc__law_right.nd (piT K (pe_tup (pa_cons (pv 4) (pa_cons (pv 12) (pa_cons (pv 13) (pa_cons (pe_tup (pa_cons (pv 11) pa_nil)) pa_nil)))))) (blkOk_by rfl) (fun _ _ _ _ _ => (pg_name (i := 10) sc__law_right.nd rfl (Or.inl rfl))) (fun _ _ _ _ _ => pts_nil) (fun _ _ _ _ _ => (pe_d c__law_papers_right hr (by decide) (by rfl) (pa_cons (pv 1) (pa_cons (pv 10) pa_nil))))) pa_nil))))))))))))))))))), ?_⟩
  rintro s0 ds s1' d _ ⟨s, hs, rfl, rfl, rfl, rfl⟩
  show Run C E _ [.ti (encT s), .un, .un, .un, .un, .un, .un, .un, .un, .un, .un, .un, .un, .un, .un] _
  obtain ⟨hw, n40, n0, hs1⟩ := netF_ok hs
  refine run_seq1 (run_set (ev_callT (ds := []) (st0 := encT s) rfl ea_nil rfl ⟨s, hs.mono (by omega), rfl, rfl, rfl, rfl⟩ rfl) rfl) ?_
  unfold rightS
  generalize netF s = nn at hw n40 n0 hs1 ⊢
  obtain ⟨w, s1⟩ := nn
  simp only at hw n40 n0 hs1 ⊢
  have hp := pick_perm w.gs.length (List.range w.gs.length) s1 _ hs1 (by simp)
  obtain ⟨hs2, _⟩ := pickF_ok w.gs.length (List.range w.gs.length) s1 _ hs1 (by simp)
  refine run_seq1 (run_set (ev_callT (ds := [_]) (st0 := encT s1) rfl (ea_cons (ev_lenG rfl) ea_nil) rfl ⟨s1, w.gs.length, by omega, hs1.mono (by omega), rfl, rfl, rfl, rfl⟩ rfl) rfl) ?_
  generalize pickF w.gs.length (List.range w.gs.length) s1 = pk at hp hs2 ⊢
  obtain ⟨W, s2⟩ := pk
  simp only at hp hs2 ⊢
  have Wnd : W.Nodup := hp.nodup_iff.mpr List.nodup_range
  have Wlt : ∀ k ∈ W, k < w.gs.length := fun k hk => List.mem_range.mp (hp.mem_iff.mp hk)
  have Wall : ∀ k, k < w.gs.length → k ∈ W := fun k hk => hp.mem_iff.mpr (List.mem_range.mpr hk)
  have Wlen : W.length = w.gs.length := by rw [hp.length_eq, List.length_range]
  have F := walk_facts hw Wnd Wlt Wall
  refine run_seq1 (run_set (ev_callD (ds := [_, _]) (ea_cons (ev_var rfl) (ea_cons (ev_var rfl) ea_nil)) ⟨w, W, hw, Wlt, by omega, rfl, rfl⟩ rfl) rfl) ?_
  refine run_seq1 (run_set (ev_callD (ds := [_]) (ea_cons (ev_var rfl) ea_nil) ⟨lawRun w W, by rw [lawRun_len]; omega, rfl, rfl⟩ rfl) rfl) ?_
  generalize lawLacking (lawRun w W) = L at F ⊢
  have hl := F.lot
  have hlen := lot_len hw hl
  have hIW := inW_of hw
  have hIL := inL_of hw hl
  have hbad := F.bad hw
  have hsm := hw.small
  have pok := partsOk hw (othersLt (w := w) (L := L))
  have hrn : ∀ l', Rnd w (othersIn w l') := fun l' => rnd_all hw othersLt (others_nodup l')
  have hfl : (freeBehind w (lawRun w W)).length ≤ 100 := by
    have := List.length_filter_le (fun p => !decide (some p ∈ lawRun w W)) (List.range w.many)
    rw [List.length_range] at this
    unfold freeBehind; omega
  refine run_seq1 (run_set (EvD.fz (ev_lcP (vs := [6]) (List.range w.many) nD (fun p => !decide (some p ∈ lawRun w W)) nD (fun p => [.ti (encT s2), .va (encW w), .va (nT W), .va (.tup ((lawRun w W).map oD)), .va (nT L), .un, .va (nD p), .un, .un, .un, .un, .un, .un, .un, .un])
    (ei_range1 (ea_cons (ev_w0 rfl) ea_nil) (by omega)) (by simp; omega) rfl (fun x _ => eg_name 6) (fun x _ => et_test (ev_op (ev_var rfl) (ev_var rfl) opv_ni_oT)) (fun x _ _ => (ev_var rfl)) (fun _ _ => rfl) (by simp))) rfl) ?_
  show Run C E _ [.ti (encT s2), .va (encW w), .va (nT W), .va (.tup ((lawRun w W).map oD)), .va (nT L), .va (nL (freeBehind w (lawRun w W))), .un, .un, .un, .un, .un, .un, .un, .un, .un] _
  refine run_seq1 (run_if (b := false) (et_not (b := true) (et_test (EvD.is (ev_callD (ds := [_, _]) (ea_cons (EvD.fz (ev_lst (xs := [.int ((w.many : Int) - (w.gs.length : Int) + (L.length : Int)), .bl (badIn w L).isEmpty]) (ea_cons (ev_callR (ea_cons (ev_var rfl) (ea_cons (ev_callD (ds := [_]) (ea_cons (ev_var rfl) ea_nil) ⟨_, hIW.1.dep, hIW.1.wid, rfl, rfl⟩ rfl) ea_nil)) ⟨w, L, _, _, hIW.2, hIL.1, hbad, rfl, rfl⟩) (ea_cons (ev_callD (ds := [_, _]) (ea_cons (ev_var rfl) (ea_cons (ev_var rfl) ea_nil)) ⟨w, L, _, _, hIW.1, hIL.1, rfl, rfl⟩ rfl) ea_nil)) (by simp)))
    (ea_cons (EvD.fz (ev_lst (xs := [nD (freeBehind w (lawRun w W)).length, .bl true]) (ea_cons (EvD.is (ev_lenL (ev_var rfl)) (by rw [List.length_map])) (ea_cons (ev_c fun _ => .bl _) ea_nil)) (by simp))) ea_nil)) ⟨_, _, rfl, rfl, by simp [depF, depFs], by simp [depF, depFs], by simp [depF, depFs], rfl, rfl⟩ rfl) (by rw [hbad, ← F.free_len hw]; simp [sameD, sameDs])))) (fun z => by cases z) fun _ => run_next rfl) ?_
  refine run_seq1 (run_set (ev_callR (ea_cons (ev_callD (ds := [_]) (ea_cons (ev_var rfl) ea_nil) ⟨_, hIL.1.dep, hIL.1.wid, rfl, rfl⟩ rfl) (ea_cons (ev_var rfl) ea_nil)) ⟨w, L, _, _, hIW.1, hIL.2, hbad, rfl, rfl⟩) rfl) ?_
  refine run_seq1 (run_par (ea_cons (ev_callD (ds := [_, _]) (ea_cons (ev_var rfl) (ea_cons (ev_var rfl) ea_nil)) ⟨w, L, hw, rfl, rfl⟩ rfl) (ea_cons (EvD.fz (ev_lst (xs := []) ea_nil (by simp))) ea_nil)) rfl (by decide)) ?_
  show Run C E _ [.ti (encT s2), .va (encW w), .va (nT W), .va (.tup ((lawRun w W).map oD)), .va (nT L), .va (nL (freeBehind w (lawRun w W))), .un, .va (nT (sparePlaces w L)), .va (nT (othersIn w L)), .va (.lst []), .un, .un, .un, .un, .un] _
  have flen : ∀ part, part ∈ lawParts w (othersIn w L) → (if lawMore w (othersIn w L) part < 0 then lawFreeIn w L part else []).length ≤ 100 := fun part hp => by
    have h1 := pok.size part hp
    have h2 := List.length_filter_le (fun p => decide (p ∈ unwantedIn w) && (L.filter fun k => decide (p ∈ [(w.g k).1, (w.g k).2])).isEmpty) part
    split
    · unfold lawFreeIn; omega
    · simp
  refine run_seq (fun ρ => ∃ u, ρ = [.ti (encT s2), .va (encW w), .va (nT W), .va (.tup ((lawRun w W).map oD)), .va (nT L), .va (nL (freeBehind w (lawRun w W))), .un, .va (nT (sparePlaces w L)), .va (nT (othersIn w L)), .va (nL (lawDue w L)), u, .un, .un, .un, .un]) (run_forP (lawParts w (othersIn w L)) nT (fun pre ρ => ∃ u, ρ = [.ti (encT s2), .va (encW w), .va (nT W), .va (.tup ((lawRun w W).map oD)), .va (nT L), .va (nL (freeBehind w (lawRun w W))), .un, .va (nT (sparePlaces w L)), .va (nT (othersIn w L)), .va (nL (pre.flatMap fun part => if lawMore w (othersIn w L) part < 0 then lawFreeIn w L part else [])), u, .un, .un, .un, .un])
    (ei_list (ev_callD (ds := [_, _]) (ea_cons (ev_var rfl) (ea_cons (ev_var rfl) ea_nil)) ⟨w, othersIn w L, hw, othersLt, others_len hw, pok.ne, rfl, rfl⟩ rfl)) ⟨.un, rfl⟩ ?_ (fun ρ ⟨u, e⟩ => ⟨u, e⟩)) ?_
  · rintro pre part post _ hsplit ⟨u, rfl⟩
    have hpart : part ∈ lawParts w (othersIn w L) := by rw [hsplit]; simp
    have hpre : (pre.flatMap fun part => if lawMore w (othersIn w L) part < 0 then lawFreeIn w L part else []).length ≤ 10000 := by
      have h1 := flat_len100 pre (f := fun part => if lawMore w (othersIn w L) part < 0 then lawFreeIn w L part else []) fun x hx => flen x (by rw [hsplit]; simp [hx])
      have h2 := pok.len
      rw [hsplit, List.length_append] at h2
      omega
    have h3 := flen part hpart
    refine ⟨_, _, eg_name 10, run_set (ρ1 := [.ti (encT s2), .va (encW w), .va (nT W), .va (.tup ((lawRun w W).map oD)), .va (nT L), .va (nL (freeBehind w (lawRun w W))), .un, .va (nT (sparePlaces w L)), .va (nT (othersIn w L)), .va (nL (pre.flatMap fun part => if lawMore w (othersIn w L) part < 0 then lawFreeIn w L part else [])), .va (nT part), .un, .un, .un, .un]) (EvD.fz (ev_opO (ev_var rfl) (ev_if (r := .va (nL (if lawMore w (othersIn w L) part < 0 then lawFreeIn w L part else []))) (et_test (ev_op (ev_callD (ds := [_, _, _]) (ea_cons (ev_var rfl) (ea_cons (ev_var rfl) (ea_cons (ev_var rfl) ea_nil))) ⟨w, othersIn w L, part, othersLt, others_len hw, rfl, rfl⟩ rfl) (ev_c fun _ => .str _) (kind_tree _))) (fun hb => ?_) (fun hb => ?_)) (opo_cat (by rw [List.length_map, List.length_map]; omega)))) ⟨.va (nT part), ?_⟩⟩
    · rw [if_pos (of_decide_eq_true hb)]
      exact ev_callD (ds := [_, _, _]) (ea_cons (ev_var rfl) (ea_cons (ev_var rfl) (ea_cons (ev_var rfl) ea_nil))) ⟨w, L, part, hw, hl.lt, hlen, pok.size part hpart, rfl, rfl⟩ rfl
    · rw [if_neg (of_decide_eq_false hb)]
      exact EvD.fz (ev_lst (xs := []) ea_nil (by simp))
    · rw [List.flatMap_append, List.flatMap_cons, List.flatMap_nil, List.append_nil, nL_app] <;> rfl
  rintro _ ⟨u, rfl⟩
  refine run_weak [10] ?_
  show Run C E _ [.ti (encT s2), .va (encW w), .va (nT W), .va (.tup ((lawRun w W).map oD)), .va (nT L), .va (nL (freeBehind w (lawRun w W))), .un, .va (nT (sparePlaces w L)), .va (nT (othersIn w L)), .va (nL (lawDue w L)), .un, .un, .un, .un, .un] _
  have hdue : (lawDue w L).length ≤ 10000 := by
    have h1 := flat_len100 (lawParts w (othersIn w L)) (f := fun part => if lawMore w (othersIn w L) part < 0 then lawFreeIn w L part else []) flen
    have h2 := pok.len
    unfold lawDue; omega
  have hdl : (srt (lawDue w L)).length ≤ 1000 := by
    rw [due_srt hw]
    have nd := due_nodup (L := L) hw
    unfold sparePlaces
    rw [(srt_perm _).length_eq]
    have := len_of_lt (n := w.many) nd fun x hx => by
      obtain ⟨part, hp, hx⟩ := List.mem_flatMap.mp hx
      exact (part_of hw othersLt (List.mem_filter.mp hp).1).lt x (List.mem_filter.mp hx).1
    omega
  refine run_seq1 (run_if (b := false) (et_or (b1 := false) (b2 := false) (et_not (b := true) (et_test (EvD.is (ev_callD (ds := [nT (sparePlaces w L), nT (srt (lawDue w L))]) (ea_cons (ev_var rfl) (ea_cons (ev_tupL (ev_callO (xs := [_]) (ea_cons (ev_var rfl) ea_nil) co_sortedN)) ea_nil)) ⟨_, _, by rw [← due_srt hw]; exact fine_nT hdl, fine_nT hdl, by rw [dep_nT]; omega, by rw [dep_nT]; omega, by rw [dep_nT]; omega, rfl, rfl⟩ rfl) (by rw [same_nT, due_srt hw]; simp))))
    fun _ => et_not (b := true) (et_test (EvD.is (ev_callD (ds := [_, _]) (ea_cons (ev_var rfl) (ea_cons (ev_var rfl) ea_nil)) ⟨freeBehind w (lawRun w W), lawDue w L, _, _, .inr rfl, .inr rfl, by omega, rfl, rfl⟩ rfl) (by rw [F.free_due hw])))) (fun z => by cases z) fun _ => run_next rfl) ?_
  obtain ⟨hs3, hk⟩ := takeF_ok hs2 (m := w.gs.length) n0
  refine run_seq1 (run_set (ev_callT (ds := [_]) (st0 := encT s2) rfl (ea_cons (ev_lenG rfl) ea_nil) rfl ⟨s2, w.gs.length, n0, by omega, hs2.mono (by omega), rfl, rfl, rfl, rfl⟩ rfl) rfl) ?_
  generalize takeF w.gs.length s2 = kk at hs3 hk ⊢
  show Run C E _ [.ti (encT kk.2), .va (encW w), .va (nT W), .va (.tup ((lawRun w W).map oD)), .va (nT L), .va (nL (freeBehind w (lawRun w W))), .un, .va (nT (sparePlaces w L)), .va (nT (othersIn w L)), .va (nL (lawDue w L)), .un, .va (nD kk.1), .un, .un, .un] _
  have hT := turned_lot hl hk
  refine run_seq1 (ρ1 := [.ti (encT kk.2), .va (encW w), .va (nT W), .va (.tup ((lawRun w W).map oD)), .va (nT L), .va (nL (freeBehind w (lawRun w W))), .un, .va (nT (sparePlaces w L)), .va (nT (othersIn w L)), .va (nL (lawDue w L)), .un, .va (nD kk.1), .va (nT (if kk.1 ∈ L then L.filter (fun x => !decide (x = kk.1)) else srt (L ++ [kk.1]))), .un, .un]) (run_set (ρ1 := [.ti (encT kk.2), .va (encW w), .va (nT W), .va (.tup ((lawRun w W).map oD)), .va (nT L), .va (nL (freeBehind w (lawRun w W))), .un, .va (nT (sparePlaces w L)), .va (nT (othersIn w L)), .va (nL (lawDue w L)), .un, .va (nD kk.1), .un, .un, .un]) (ev_if (r := .va (nT (if kk.1 ∈ L then L.filter (fun x => !decide (x = kk.1)) else srt (L ++ [kk.1])))) (et_test (ev_op (ev_var rfl) (ev_var rfl) opv_in_nT)) (fun hb => ?_) (fun hb => ?_)) rfl) ?_
  · rw [if_pos (of_decide_eq_true hb)]
    exact ev_tupL (ev_lcP (vs := [10]) L nD (fun x => !decide (x = kk.1)) nD (fun x => [.ti (encT kk.2), .va (encW w), .va (nT W), .va (.tup ((lawRun w W).map oD)), .va (nT L), .va (nL (freeBehind w (lawRun w W))), .un, .va (nT (sparePlaces w L)), .va (nT (othersIn w L)), .va (nL (lawDue w L)), .va (nD x), .va (nD kk.1), .un, .un, .un]) (ei_tup (ev_var rfl)) (by omega) rfl (fun x _ => eg_name 10) (fun x _ => EvT.is (et_test (ev_op (ev_var rfl) (ev_var rfl) opv_neI)) (by congr 1; exact decide_eq_decide.mpr (by omega))) (fun x _ _ => (ev_var rfl)) (fun _ _ => rfl) (by simp))
  · rw [if_neg (of_decide_eq_false hb)]
    have e : D.tup (L.map nD ++ [nD kk.1]) = nT (L ++ [kk.1]) := by
      show _ = D.tup _
      rw [List.map_append] <;> rfl
    exact ev_tupL (ev_callO (xs := [nT (L ++ [kk.1])]) (ea_cons (EvD.is (ev_op (ev_var rfl) (ev_tup (xs := [nD kk.1]) (ea_cons (ev_var rfl) ea_nil) (by simp)) (opv_catT (by rw [List.length_map]; simp; omega))) e) ea_nil) co_sortTI)
  have hd2 : (0 : Int) = ((0 : Nat) : Int) := rfl
  have z := ev_lc (vs := [10]) (js := [10]) (ρ := [.ti (encT kk.2), .va (encW w), .va (nT W), .va (.tup ((lawRun w W).map oD)), .va (nT L), .va (nL (freeBehind w (lawRun w W))), .un, .va (nT (sparePlaces w L)), .va (nT (othersIn w L)), .va (nL (lawDue w L)), .un, .va (nD kk.1), .va (nT (if kk.1 ∈ L then L.filter (fun x => !decide (x = kk.1)) else srt (L ++ [kk.1]))), .un, .un]) (ρ1 := [.ti (encT kk.2), .va (encW w), .va (nT W), .va (.tup ((lawRun w W).map oD)), .va (nT L), .va (nL (freeBehind w (lawRun w W))), .un, .va (nT (sparePlaces w L)), .va (nT (othersIn w L)), .va (nL (lawDue w L)), .un, .va (nD kk.1), .va (nT (if kk.1 ∈ L then L.filter (fun x => !decide (x = kk.1)) else srt (L ++ [kk.1]))), .un, .un]) (ds := L.map nD) (wi := iTup K (tVar 4)) (g := gName 10) (te := tVar 10) (tt := tTest (tOp rEq (tCall (spT 1 r__law_take) [] E0 (tCons (tVar 0) (tCons (tC (.int 2)) tNil))) (tC (.int 0)))) (ei_tup (ev_var rfl)) (fun i => [.ti (encT (keepF (L.take i) kk.2).2), .va (encW w), .va (nT W), .va (.tup ((lawRun w W).map oD)), .va (nT L), .va (nL (freeBehind w (lawRun w W))), .un, .va (nT (sparePlaces w L)), .va (nT (othersIn w L)), .va (nL (lawDue w L)), .un, .va (nD kk.1), .va (nT (if kk.1 ∈ L then L.filter (fun x => !decide (x = kk.1)) else srt (L ++ [kk.1]))), .un, .un]) (fun i => decide ((takeF 2 (keepF (L.take i) kk.2).2).1 = 0)) (fun i => nD (L.getD i 0)) rfl (by rw [List.length_map]; omega) (fun _ => rfl) (fun i d hd => by
    have hi : i < L.length := by have := (List.getElem?_eq_some_iff.mp hd).1; rw [List.length_map] at this; exact this
    have ed : d = nD (L.getD i 0) := by
      rw [List.getElem?_map, List.getElem?_eq_getElem hi] at hd
      rw [List.getD_eq_getElem?_getD, List.getElem?_eq_getElem hi]
      exact (Option.some.inj hd).symm
    subst ed
    have e1 : L.take (i + 1) = L.take i ++ [L.getD i 0] := by
      rw [List.take_succ, List.getD_eq_getElem?_getD, List.getElem?_eq_getElem hi] <;> rfl
    have e2 : (keepF (L.take (i + 1)) kk.2).2 = (takeF 2 (keepF (L.take i) kk.2).2).2 := by rw [e1, keepF_snoc]
    have tk := keepF_ok (L.take i) kk.2 _ hs3
    have tk2 : (L.take i).length ≤ L.length := by rw [List.length_take]; omega
    refine ⟨[.ti (encT (keepF (L.take i) kk.2).2), .va (encW w), .va (nT W), .va (.tup ((lawRun w W).map oD)), .va (nT L), .va (nL (freeBehind w (lawRun w W))), .un, .va (nT (sparePlaces w L)), .va (nT (othersIn w L)), .va (nL (lawDue w L)), .va (nD (L.getD i 0)), .va (nD kk.1), .va (nT (if kk.1 ∈ L then L.filter (fun x => !decide (x = kk.1)) else srt (L ++ [kk.1]))), .un, .un], [.ti (encT (takeF 2 (keepF (L.take i) kk.2).2).2), .va (encW w), .va (nT W), .va (.tup ((lawRun w W).map oD)), .va (nT L), .va (nL (freeBehind w (lawRun w W))), .un, .va (nT (sparePlaces w L)), .va (nT (othersIn w L)), .va (nL (lawDue w L)), .va (nD (L.getD i 0)), .va (nD kk.1), .va (nT (if kk.1 ∈ L then L.filter (fun x => !decide (x = kk.1)) else srt (L ++ [kk.1]))), .un, .un], [.ti (encT (takeF 2 (keepF (L.take i) kk.2).2).2), .va (encW w), .va (nT W), .va (.tup ((lawRun w W).map oD)), .va (nT L), .va (nL (freeBehind w (lawRun w W))), .un, .va (nT (sparePlaces w L)), .va (nT (othersIn w L)), .va (nL (lawDue w L)), .va (nD (L.getD i 0)), .va (nD kk.1), .va (nT (if kk.1 ∈ L then L.filter (fun x => !decide (x = kk.1)) else srt (L ++ [kk.1]))), .un, .un], eg_name 10, EvT.is (et_test (ev_op (ev_callT (ds := [nD 2]) (st0 := encT (keepF (L.take i) kk.2).2) rfl (ea_cons (ev_c fun _ => .int _) ea_nil) rfl ⟨(keepF (L.take i) kk.2).2, 2, by omega, by omega, tk.mono (by omega), rfl, rfl, rfl, rfl⟩ rfl) (ev_c fun _ => .int _) opv_eqI)) (decide_eq_decide.mpr (by omega)), fun _ => ⟨(ev_var rfl), ?_⟩, fun _ => ?_⟩ <;> (show _ = wipeE [.ti (encT (keepF (L.take (i + 1)) kk.2).2), .va (encW w), .va (nT W), .va (.tup ((lawRun w W).map oD)), .va (nT L), .va (nL (freeBehind w (lawRun w W))), .un, .va (nT (sparePlaces w L)), .va (nT (othersIn w L)), .va (nL (lawDue w L)), .un, .va (nD kk.1), .va (nT (if kk.1 ∈ L then L.filter (fun x => !decide (x = kk.1)) else srt (L ++ [kk.1]))), .un, .un] [10]; rw [e2]; rfl)) (fun k h => h)
  rw [List.length_map, made_keep L kk.2 L.length (Nat.le_refl _), List.take_length] at z
  refine run_seq1 (ρ1 := [.ti (encT (keepF L kk.2).2), .va (encW w), .va (nT W), .va (.tup ((lawRun w W).map oD)), .va (nT L), .va (nL (freeBehind w (lawRun w W))), .un, .va (nT (sparePlaces w L)), .va (nT (othersIn w L)), .va (nL (lawDue w L)), .un, .va (nD kk.1), .va (nT (if kk.1 ∈ L then L.filter (fun x => !decide (x = kk.1)) else srt (L ++ [kk.1]))), .va (nT (keepF L kk.2).1), .un]) (run_set (ev_tupL z) rfl) ?_
  have hs4 := keepF_ok L kk.2 _ hs3
  have hsub := keepF_sub L kk.2
  have hK := sub_lot hl hsub
  generalize keepF L kk.2 = kp at hs4 hsub hK ⊢
  have hIK := inL_of hw hK
  have hbar : barringIn w kp.1 = [] := F.barring hw fun k hk => hsub.subset hk
  have hGL := grown_lot (w := w) hK
  have hGb := grown_bad hw hK hbar
  have hGlen : (lotGrown w kp.1).length ≤ w.gs.length := len_of_lt (hGL.asc.imp fun h e => by omega) hGL.lt
  have hKlen : kp.1.length ≤ 100 := lot_len hw hK
  have gok := partsOk hw (othersLt (w := w) (L := lotGrown w kp.1))
  refine run_seq1 (run_set (ev_callR (ea_cons (ev_callD (ds := [_]) (ea_cons (ev_var rfl) ea_nil) ⟨_, hIK.1.dep, hIK.1.wid, rfl, rfl⟩ rfl) (ea_cons (ev_var rfl) ea_nil)) ⟨w, kp.1, _, _, hIW.1, hIK.2, hrn _, by have := more_len hw hK; omega, hbar, rfl, rfl⟩) rfl) ?_
  have hwi : within kp.1 (lotGrown w kp.1) = true := within_iff.mpr fun x hx => mem_grown.mpr (.inl hx)
  have hbn : lawBars w (lotGrown w kp.1) = [] := (bars_nil hw).mpr hGb
  refine run_seq1 (run_if (b := false) (et_or (b1 := false) (b2 := false) (et_not (b := true) (et_test (ev_callD (ds := [_, _]) (ea_cons (ev_lenG rfl) (ea_cons (ev_var rfl) ea_nil)) ⟨w.gs.length, lotGrown w kp.1, hGL.lt, hGL.asc, by omega, rfl, rfl⟩ rfl)))
    fun _ => et_or (b1 := false) (b2 := false) (et_not (b := true) (et_test (EvD.is (ev_callD (ds := [_, _]) (ea_cons (ev_var rfl) (ea_cons (ev_var rfl) ea_nil)) ⟨kp.1, lotGrown w kp.1, _, _, .inl rfl, .inl rfl, by omega, rfl, rfl⟩ rfl) (by rw [hwi]))))
    fun _ => et_test (EvD.is (ev_op (ev_callD (ds := [_, _]) (ea_cons (ev_var rfl) (ea_cons (ev_var rfl) ea_nil)) ⟨w, lotGrown w kp.1, hw, hGL.lt, by omega, gok, rfl, rfl⟩ rfl) (EvD.fz (ev_lst (xs := []) ea_nil (by simp))) (opv_ne_nil (eqOk_parts _))) (by rw [hbn]; rfl))) (fun z => by cases z) fun _ => run_next rfl) ?_
  have hone : Lot w [kk.1] := ⟨fun g hg => by rw [List.mem_singleton.mp hg]; exact hk, by simp⟩
  have hxs : ∀ x ∈ [L, (if kk.1 ∈ L then L.filter (fun x => !decide (x = kk.1)) else srt (L ++ [kk.1])), kp.1, [kk.1]], Lot w x := fun x hx => by
    simp only [List.mem_cons, List.not_mem_nil, or_false] at hx
    rcases hx with h | h | h | h <;> (rw [h]; assumption)
  refine run_ret (ρ1 := [.ti (encT kp.2), .va (encW w), .va (nT W), .va (.tup ((lawRun w W).map oD)), .va (nT L), .va (nL (freeBehind w (lawRun w W))), .un, .va (nT (sparePlaces w L)), .va (nT (othersIn w L)), .va (nL (lawDue w L)), .un, .va (nD kk.1), .va (nT (if kk.1 ∈ L then L.filter (fun x => !decide (x = kk.1)) else srt (L ++ [kk.1]))), .va (nT kp.1), .va (nT (lotGrown w kp.1))]) (EvD.is (ev_all (xs := [L, (if kk.1 ∈ L then L.filter (fun x => !decide (x = kk.1)) else srt (L ++ [kk.1])), kp.1, [kk.1]]) (g := fun _ => true) (ev_lcM (vs := [10]) [L, (if kk.1 ∈ L then L.filter (fun x => !decide (x = kk.1)) else srt (L ++ [kk.1])), kp.1, [kk.1]] nT (fun _ => .bl true) (fun x => [.ti (encT kp.2), .va (encW w), .va (nT W), .va (.tup ((lawRun w W).map oD)), .va (nT L), .va (nL (freeBehind w (lawRun w W))), .un, .va (nT (sparePlaces w L)), .va (nT (othersIn w L)), .va (nL (lawDue w L)), .va (nT x), .va (nD kk.1), .va (nT (if kk.1 ∈ L then L.filter (fun x => !decide (x = kk.1)) else srt (L ++ [kk.1]))), .va (nT kp.1), .va (nT (lotGrown w kp.1))])
    (ei_tup (ev_tup (xs := [nT L, nT (if kk.1 ∈ L then L.filter (fun x => !decide (x = kk.1)) else srt (L ++ [kk.1])), nT kp.1, nT [kk.1]]) (ea_cons (ev_var rfl) (ea_cons (ev_var rfl) (ea_cons (ev_var rfl) (ea_cons (ev_tup (xs := [nD kk.1]) (ea_cons (ev_var rfl) ea_nil) (by simp)) ea_nil)))) (by simp))) (by simp) rfl (fun x _ => eg_name 10) (fun x hx => ev_callD (ds := [_, _]) (ea_cons (ev_var rfl) (ea_cons (ev_var rfl) ea_nil)) ⟨w, x, hw, hxs x hx, by omega, rfl, rfl⟩ rfl) (fun _ _ => rfl) (by simp))) (by simp)) ⟨rfl, by rfl⟩
end
end K17
end

section
set_option maxRecDepth 100000
set_option maxHeartbeats 4000000
namespace K17
open MN DL
def line40 : Web := ⟨40, (List.range 39).map fun k => (k, k + 1)⟩
def table40 : Web := ⟨40, (List.range 40).map fun k => (k, (k + 1) % 40)⟩
def mid40 : Web := ⟨40, (List.range 39).map fun k => if k < 20 then (k + 1, k) else (k, k + 1)⟩
def line21 : Web := ⟨21, (List.range 20).map fun k => (k, k + 1)⟩
def mid21 : Web := ⟨21, (List.range 20).map fun k => if k < 10 then (k + 1, k) else (k, k + 1)⟩
theorem line40_ok : line40.Ok := ⟨by decide +kernel, by decide +kernel, by decide +kernel, by decide +kernel⟩
theorem table40_ok : table40.Ok := ⟨by decide +kernel, by decide +kernel, by decide +kernel, by decide +kernel⟩
theorem mid40_ok : mid40.Ok := ⟨by decide +kernel, by decide +kernel, by decide +kernel, by decide +kernel⟩
theorem line21_ok : line21.Ok := ⟨by decide +kernel, by decide +kernel, by decide +kernel, by decide +kernel⟩
theorem mid21_ok : mid21.Ok := ⟨by decide +kernel, by decide +kernel, by decide +kernel, by decide +kernel⟩
theorem c0 : neverWithout line21 = List.range 20 := by decide +kernel
theorem c1 : neverWithout mid21 = [0, 19] := by decide +kernel
theorem c2 : rivals mid21 9 = ((List.range 18).filter fun i => !decide (1 + i = 9)).map (1 + ·) := by decide +kernel
theorem l1 : badIn line40 [] = [] := by decide +kernel
theorem l2 : (badIn line40 [38]).isEmpty = false := by decide +kernel
theorem l3 : (badIn line40 [20]).isEmpty = false := by decide +kernel
theorem l4 : sparePlaces line40 [] = [39] := by decide +kernel
theorem l5 : barringIn line40 [7] = [List.range 8] := by decide +kernel
theorem l6 : (badIn line40 [0]).head? = some [0] := by decide +kernel
theorem t1 : badIn table40 [] = [] := by decide +kernel
theorem t2 : sparePlaces table40 [] = [] := by decide +kernel
theorem t3 : (barringIn table40 [9]).isEmpty = false := by decide +kernel
theorem m1 : badIn mid40 [19] = [] := by decide +kernel
theorem m2 : sparePlaces mid40 [19] = [0, 39] := by decide +kernel
theorem m3 : (badIn mid40 [0]).head? = some [0] := by decide +kernel
theorem m4 : (barringIn mid40 [5, 30]).head? = some ((List.range 25).map fun i => 6 + i) := by decide +kernel
def walkM : List Nat := orderBy mid40 [19] [0, 39]
theorem m5 : (∀ k ∈ walkM, k < mid40.gs.length) ∧ walkM.length = 39 := by decide +kernel
theorem m6 : isJust mid40 [19] walkM = true := by decide +kernel
theorem m7 : freeBehind mid40 (lawRun mid40 walkM) = [0, 39] := by decide +kernel
theorem m8 : [0, 39].length = (treesOf mid40 (othersIn mid40 [19])).length ∧ (∀ p ∈ [0, 39], p ∈ spareIn mid40 [19]) ∧ ∀ part ∈ treesOf mid40 (othersIn mid40 [19]), ∃ p ∈ [0, 39], p ∈ part := by decide +kernel
end K17
end

section
set_option maxRecDepth 100000
set_option maxHeartbeats 4000000
namespace K17
open PySem PySem.Spec PyProof.Rows L2 DL MN
section
variable {P : Program} {w : World} {K : PySem.W.Frag} {mg : Str → Option Value} {base : Heap} {C : Addr} {f : Addr} {fd : FuncData}


theorem enc_line40 : D.tup [nD 40, .tup ((List.range 39).map fun k => .tup [nD k, nD (k + 1)])] = encW line40 := by
  show _ = D.tup [nD 40, .tup (((List.range 39).map fun k => (k, k + 1)).map encP)]
  rw [List.map_map] <;> rfl
theorem enc_table40 : D.tup [nD 40, .tup ((List.range 40).map fun k => .tup [nD k, nD ((k + 1) % 40)])] = encW table40 := by
  show _ = D.tup [nD 40, .tup (((List.range 40).map fun k => (k, (k + 1) % 40)).map encP)]
  rw [List.map_map] <;> rfl
theorem enc_mid40 : D.tup [nD 40, .tup ((List.range 39).map fun k => encP (if k < 20 then (k + 1, k) else (k, k + 1)))] = encW mid40 := by
  show _ = D.tup [nD 40, .tup (((List.range 39).map fun k => if k < 20 then (k + 1, k) else (k, k + 1)).map encP)]
  rw [List.map_map] <;> rfl
theorem enc_line21 : D.tup [nD 21, .tup ((List.range 20).map fun k => .tup [nD k, nD (k + 1)])] = encW line21 := by
  show _ = D.tup [nD 21, .tup (((List.range 20).map fun k => (k, k + 1)).map encP)]
  rw [List.map_map] <;> rfl
theorem enc_mid21 : D.tup [nD 21, .tup ((List.range 20).map fun k => encP (if k < 10 then (k + 1, k) else (k, k + 1)))] = encW mid21 := by
  show _ = D.tup [nD 21, .tup (((List.range 20).map fun k => if k < 10 then (k + 1, k) else (k, k + 1)).map encP)]
  rw [List.map_map] <;> rfl

def r__law_never_right (ds : List D) (r : Option D) : Prop := ∃ t : Nat, t < 3 ∧ ds = [nD t] ∧ r = some (.bl true)
theorem cal__law_never_right (T : Txt K mg C) (Dx : DefAt K mg "_law_never_right" s__law_never_right f fd) (c__law_same : CalD P w K mg base 6 "_law_same" ["_law_got", "_law_due"] (spD C 2 r__law_same)) (c_never_without : CalD P w K mg base 8 "never_without" ["web"] (spD C 1 r_never_without)) (c_rivals : CalD P w K mg base 8 "rivals" ["web", "guest"] (spD C 2 r_rivals)) : CalD P w K mg base 9 "_law_never_right" ["_law_turn"] (spD C 1 r__law_never_right) := by
  refine mkCal Dx sc__law_never_right bd__law_never_right (by decide) fun f cdv A outer s H E hr => have hu := hu_of hr; ⟨_, (pss_cons (ps_if (pt_cmpR op_eq (pv 0) pe_int (nomark _)) (pss_one (ps_ret (pe_d c__law_same hr (by decide) (by rfl) (pa_cons (pe_d c_never_without hr (by decide) (by rfl) (pa_cons (pe_tup (pa_cons pe_int (pa_cons (pe_callTy (crTup K) (by rfl) T.tuple (by decide +kernel) (pa_cons (pe_lc (own := [("_law_k", 1)]) rfl sc__law_never_right.nd (pi_range1 rfl T.range (pa_cons pe_int pa_nil)) (blkOk_by rfl) (fun _ _ _ _ _ => (pg_name (i := 1) sc__law_never_right.nd rfl (Or.inl rfl))) (fun _ _ _ _ _ => pts_nil) (fun _ _ _ _ _ => (pe_tup (pa_cons (pv 1) (pa_cons (pe_op op_add (pv 1) pe_int) pa_nil))))) pa_nil)) pa_nil))) pa_nil)) (pa_cons (pe_tupRg rfl (by rfl) T.tuple (prg_1 (by rfl) T.range pe_int)) pa_nil))))) pss_nil)
      (pss_cons (ps_set (i := 2) sc__law_never_right.nd rfl (Or.inl rfl) (pe_tup (pa_cons pe_int (pa_cons (pe_callTy (crTup K) (by rfl) T.tuple (by decide +kernel) (pa_cons (pe_lc (own := [("_law_k", 1)]) rfl sc__law_never_right.nd (pi_range1 rfl T.range (pa_cons pe_int pa_nil)) (blkOk_by rfl) (fun _ _ _ _ _ => (pg_name (i := 1) sc__law_never_right.nd rfl (Or.inl rfl))) (fun _ _ _ _ _ => pts_nil) (fun _ _ _ _ _ => (pe_ifExp (pt_cmpR op_lt (pv 1) pe_int (nomark _)) (pe_tup (pa_cons (pe_op op_add (pv 1) pe_int) (pa_cons (pv 1) pa_nil))) (pe_tup (pa_cons (pv 1) (pa_cons (pe_op op_add (pv 1) pe_int) pa_nil)))))) pa_nil)) pa_nil))))
      (pss_cons (ps_if (pt_cmpR op_eq (pv 0) pe_int (nomark _)) (pss_one (ps_ret (pe_d c__law_same hr (by decide) (by rfl) (pa_cons (pe_d c_never_without hr (by decide) (by rfl) (pa_cons (pv 2) pa_nil)) (pa_cons (pe_tup (pa_cons pe_int (pa_cons pe_int pa_nil))) pa_nil))))) pss_nil)
      (pss_one (ps_ret (pe_d c__law_same hr (by decide) (by rfl) (pa_cons (pe_d c_rivals hr (by decide) (by rfl) (pa_cons (pv 2) (pa_cons pe_int pa_nil))) (pa_cons (pe_callTy (crTup K) (by rfl) T.tuple (by decide +kernel) (pa_cons (pe_lc (own := [("_law_k", 1)]) rfl sc__law_never_right.nd (pi_range2 rfl T.range (pa_cons pe_int (pa_cons pe_int pa_nil))) (blkOk_by rfl) (fun _ _ _ _ _ => (pg_name (i := 1) sc__law_never_right.nd rfl (Or.inl rfl))) (fun _ _ _ _ _ => (pts_one (pt_cmpR op_ne (pv 1) pe_int (nomark _)))) (fun _ _ _ _ _ => (pv 1))) pa_nil)) pa_nil)))))))), ?_⟩
  rintro ds r _ ⟨t, ht, rfl, rfl⟩
  show Run C E _ [.va (nD t), .un, .un] _
  match t, ht with
  | 0, _ =>
    refine run_seq (fun _ => False) (run_if (b := true) (EvT.is (et_test (ev_op (ev_var rfl) (ev_c fun _ => .int _) opv_eqI)) (by decide)) (fun _ => ?_) (fun z => by cases z)) fun _ h => h.elim
    exact run_ret (EvD.is (ev_callD (ds := [nT (neverWithout line21), nT (List.range 20)]) (ea_cons (ev_callD (ds := [_]) (ea_cons (EvD.is (ev_tup (xs := [nD 21, .tup ((List.range 20).map fun k => .tup [nD k, nD (k + 1)])]) (ea_cons (ev_c fun _ => .int _) (ea_cons (ev_tupL (ev_lcM (vs := [1]) (List.range 20) nD (fun k => .tup [nD k, nD (k + 1)]) (fun k => [.va (nD 0), .va (nD k), .un]) (ei_range1 (n := 20) (ea_cons (ev_c fun _ => .int _) ea_nil) (by simp)) (by simp) rfl (fun x _ => eg_name 1) (fun x _ => (ev_tup (xs := [_, _]) (ea_cons (ev_var rfl) (ea_cons (EvD.is (ev_op (ev_var rfl) (ev_c fun _ => .int _) opv_int) (by simp)) ea_nil)) (by simp))) (fun _ _ => rfl) (by simp))) ea_nil)) (by simp)) enc_line21) ea_nil) ⟨line21, _, (inW_of line21_ok).1, rfl, rfl⟩ rfl) (ea_cons (ev_tupRg (ev_c fun _ => .int _) (by omega)) ea_nil)) ⟨_, _, fine_nT (by decide +kernel), fine_nT (by decide +kernel), by rw [dep_nT]; omega, by rw [dep_nT]; omega, by rw [dep_nT]; omega, rfl, rfl⟩ rfl) (by rw [same_nT, c0]; rfl)) rfl
  | 1, _ =>
    refine run_seq1 (run_if (b := false) (EvT.is (et_test (ev_op (ev_var rfl) (ev_c fun _ => .int _) opv_eqI)) (by decide)) (fun z => by cases z) fun _ => run_next rfl) ?_
    refine run_seq1 (ρ1 := [.va (nD 1), .un, .va (encW mid21)]) (run_set (EvD.is (ev_tup (xs := [nD 21, .tup ((List.range 20).map fun k => encP (if k < 10 then (k + 1, k) else (k, k + 1)))]) (ea_cons (ev_c fun _ => .int _) (ea_cons (ev_tupL (ev_lcM (vs := [1]) (List.range 20) nD (fun k => encP (if k < 10 then (k + 1, k) else (k, k + 1))) (fun k => [.va (nD 1), .va (nD k), .un]) (ei_range1 (n := 20) (ea_cons (ev_c fun _ => .int _) ea_nil) (by simp)) (by simp) rfl (fun x _ => eg_name 1) (fun x _ => (ev_if (et_test (ev_op (ev_var rfl) (ev_c fun _ => .int _) opv_bl)) (b := decide ((x : Int) < 10)) (r := .va (encP (if x < 10 then (x + 1, x) else (x, x + 1)))) (fun hb => by rw [if_pos (by have := of_decide_eq_true hb; omega)]; exact (ev_tup (xs := [_, _]) (ea_cons (EvD.is (ev_op (ev_var rfl) (ev_c fun _ => .int _) opv_int) (by simp)) (ea_cons (ev_var rfl) ea_nil)) (by simp))) (fun hb => by rw [if_neg (by have := of_decide_eq_false hb; omega)]; exact (ev_tup (xs := [_, _]) (ea_cons (ev_var rfl) (ea_cons (EvD.is (ev_op (ev_var rfl) (ev_c fun _ => .int _) opv_int) (by simp)) ea_nil)) (by simp))))) (fun _ _ => rfl) (by simp))) ea_nil)) (by simp)) enc_mid21) rfl) ?_
    refine run_seq (fun _ => False) (run_if (b := true) (EvT.is (et_test (ev_op (ev_var rfl) (ev_c fun _ => .int _) opv_eqI)) (by decide)) (fun _ => ?_) (fun z => by cases z)) fun _ h => h.elim
    exact run_ret (EvD.is (ev_callD (ds := [nT (neverWithout mid21), nT [0, 19]]) (ea_cons (ev_callD (ds := [_]) (ea_cons (ev_var rfl) ea_nil) ⟨mid21, _, (inW_of mid21_ok).1, rfl, rfl⟩ rfl) (ea_cons (ev_tup (xs := [nD 0, nD 19]) (ea_cons (ev_c fun _ => .int _) (ea_cons (ev_c fun _ => .int _) ea_nil)) (by simp)) ea_nil)) ⟨_, _, fine_nT (by decide +kernel), fine_nT (by decide +kernel), by rw [dep_nT]; omega, by rw [dep_nT]; omega, by rw [dep_nT]; omega, rfl, rfl⟩ rfl) (by rw [same_nT, c1]; rfl)) rfl
  | 2, _ =>
    refine run_seq1 (run_if (b := false) (EvT.is (et_test (ev_op (ev_var rfl) (ev_c fun _ => .int _) opv_eqI)) (by decide)) (fun z => by cases z) fun _ => run_next rfl) ?_
    refine run_seq1 (ρ1 := [.va (nD 2), .un, .va (encW mid21)]) (run_set (EvD.is (ev_tup (xs := [nD 21, .tup ((List.range 20).map fun k => encP (if k < 10 then (k + 1, k) else (k, k + 1)))]) (ea_cons (ev_c fun _ => .int _) (ea_cons (ev_tupL (ev_lcM (vs := [1]) (List.range 20) nD (fun k => encP (if k < 10 then (k + 1, k) else (k, k + 1))) (fun k => [.va (nD 2), .va (nD k), .un]) (ei_range1 (n := 20) (ea_cons (ev_c fun _ => .int _) ea_nil) (by simp)) (by simp) rfl (fun x _ => eg_name 1) (fun x _ => (ev_if (et_test (ev_op (ev_var rfl) (ev_c fun _ => .int _) opv_bl)) (b := decide ((x : Int) < 10)) (r := .va (encP (if x < 10 then (x + 1, x) else (x, x + 1)))) (fun hb => by rw [if_pos (by have := of_decide_eq_true hb; omega)]; exact (ev_tup (xs := [_, _]) (ea_cons (EvD.is (ev_op (ev_var rfl) (ev_c fun _ => .int _) opv_int) (by simp)) (ea_cons (ev_var rfl) ea_nil)) (by simp))) (fun hb => by rw [if_neg (by have := of_decide_eq_false hb; omega)]; exact (ev_tup (xs := [_, _]) (ea_cons (ev_var rfl) (ea_cons (EvD.is (ev_op (ev_var rfl) (ev_c fun _ => .int _) opv_int) (by simp)) ea_nil)) (by simp))))) (fun _ _ => rfl) (by simp))) ea_nil)) (by simp)) enc_mid21) rfl) ?_
    refine run_seq1 (run_if (b := false) (EvT.is (et_test (ev_op (ev_var rfl) (ev_c fun _ => .int _) opv_eqI)) (by decide)) (fun z => by cases z) fun _ => run_next rfl) ?_
    have e2 : (((List.range 18).filter fun i => !decide (1 + i = 9)).map fun i => nD (1 + i)) = (((List.range 18).filter fun i => !decide (1 + i = 9)).map (1 + ·)).map nD := by rw [List.map_map] <;> rfl
    exact run_ret (EvD.is (ev_callD (ds := [nT (rivals mid21 9), nT (((List.range 18).filter fun i => !decide (1 + i = 9)).map (1 + ·))]) (ea_cons (ev_callD (ds := [_, nD 9]) (ea_cons (ev_var rfl) (ea_cons (ev_c fun _ => .int _) ea_nil)) ⟨mid21, 9, _, (inW_of mid21_ok).1, by decide +kernel, rfl, rfl⟩ rfl) (ea_cons (EvD.is (ev_tupL (ev_lcP (vs := [1]) (List.range 18) (fun i => nD (1 + i)) (fun i => !decide (1 + i = 9)) (fun i => nD (1 + i)) (fun i => [.va (nD 2), .va (nD (1 + i)), .va (encW mid21)]) (ei_range2 (a := 1) (b := 19) (ea_cons (ev_c fun _ => .int _) (ea_cons (ev_c fun _ => .int _) ea_nil)) (by omega) (by omega)) (by simp) rfl (fun x _ => eg_name 1) (fun x _ => EvT.is (et_test (ev_op (ev_var rfl) (ev_c fun _ => .int _) opv_neI)) (by congr 1; exact decide_eq_decide.mpr (by omega))) (fun x _ _ => (ev_var rfl)) (fun _ _ => rfl) (by simp))) (by rw [e2])) ea_nil)) ⟨_, _, fine_nT (by decide +kernel), fine_nT (by decide +kernel), by rw [dep_nT]; omega, by rw [dep_nT]; omega, by rw [dep_nT]; omega, rfl, rfl⟩ rfl) (by rw [same_nT, c2]; simp)) rfl

theorem m0 : (badIn mid40 [0]).isEmpty = false := by decide +kernel
theorem m4b : (barringIn mid40 [5, 30]).isEmpty = false := by decide +kernel
theorem inp_0_39 : InP mid40 [0, 39] (nT [0, 39]) := ⟨by decide +kernel, by decide +kernel, rfl, by decide +kernel, by decide +kernel⟩
theorem same_hand : D.bl (sameD (.lst (((([.bl true, .bl false, .bl false, nD 1, nT [39]] ++ [.bl true, .bl false, nT (List.range 8), nT [0]]) ++ [.bl true, nT [], .bl false, .bl true]) ++ [.bl true, nD 2, nT [0, 39], .bl true]) ++ [.bl false, nT [0], .bl false, nT ((List.range 25).map fun i => 6 + i)])) (.lst (((([.bl true, .bl false, .bl false, nD 1, nT [39]] ++ [.bl true, .bl false, nT (List.range 8), nT [0]]) ++ [.bl true, nT [], .bl false, .bl true]) ++ [.bl true, nD 2, nT [0, 39], .bl true]) ++ [.bl false, nT [0], .bl false, nT ((List.range 25).map fun i => 6 + i)]))) = .bl true := congrArg D.bl (by decide +kernel)

def r__law_by_hand_right (ds : List D) (r : Option D) : Prop := ds = [] ∧ r = some (.bl true)
theorem cal__law_by_hand_right (T : Txt K mg C) (Dx : DefAt K mg "_law_by_hand_right" s__law_by_hand_right f fd) (c__law_heard : CalD P w K mg base 11 "_law_heard" ["_law_door", "_law_net", "_law_heap"] (spD C 3 r__law_heard)) (c__law_just : CalD P w K mg base 3 "_law_just" ["_law_net", "_law_heap", "_law_matter"] (spD C 3 r__law_just)) (c__law_run : CalD P w K mg base 2 "_law_run" ["_law_net", "_law_walk_here"] (spD C 2 r__law_run)) (c__law_same : CalD P w K mg base 6 "_law_same" ["_law_got", "_law_due"] (spD C 2 r__law_same)) (c_can_be_without : CalD P w K mg base 9 "can_be_without" ["web", "lot"] (spD C 2 r_can_be_without)) (c_can_together : CalD P w K mg base 9 "can_together" ["web", "lot"] (spD C 2 r_can_together)) (c_how_many_free : CalD P w K mg base 9 "how_many_free" ["web", "lot"] (spD C 2 r_how_many_free)) (c_order_leaving : CalD P w K mg base 9 "order_leaving" ["web", "lot", "places"] (spD C 3 r_order_leaving)) (c_spare_places : CalD P w K mg base 9 "spare_places" ["web", "lot"] (spD C 2 r_spare_places)) : CalD P w K mg base 12 "_law_by_hand_right" [] (spD C 0 r__law_by_hand_right) := by
  refine mkCal Dx sc__law_by_hand_right bd__law_by_hand_right (by decide) fun f cdv A outer s H E hr => have hu := hu_of hr; ⟨_, (pss_cons (ps_set (i := 0) sc__law_by_hand_right.nd rfl (Or.inl rfl) (pe_tup (pa_cons pe_int (pa_cons (pe_callTy (crTup K) (by rfl) T.tuple (by decide +kernel) (pa_cons (pe_lc (own := [("_law_k", 1)]) rfl sc__law_by_hand_right.nd (pi_range1 rfl T.range (pa_cons pe_int pa_nil)) (blkOk_by rfl) (fun _ _ _ _ _ => (pg_name (i := 1) sc__law_by_hand_right.nd rfl (Or.inl rfl))) (fun _ _ _ _ _ => pts_nil) (fun _ _ _ _ _ => (pe_tup (pa_cons (pv 1) (pa_cons (pe_op op_add (pv 1) pe_int) pa_nil))))) pa_nil)) pa_nil))))
      (pss_cons (ps_set (i := 2) sc__law_by_hand_right.nd rfl (Or.inl rfl) (pe_lst (pa_cons (pe_d c_can_be_without hr (by decide) (by rfl) (pa_cons (pv 0) (pa_cons (pe_tup pa_nil) pa_nil))) (pa_cons (pe_d c_can_be_without hr (by decide) (by rfl) (pa_cons (pv 0) (pa_cons (pe_tup (pa_cons pe_int pa_nil)) pa_nil))) (pa_cons (pe_d c_can_be_without hr (by decide) (by rfl) (pa_cons (pv 0) (pa_cons (pe_tup (pa_cons pe_int pa_nil)) pa_nil))) (pa_cons (pe_d c_how_many_free hr (by decide) (by rfl) (pa_cons (pv 0) (pa_cons (pe_tup pa_nil) pa_nil))) (pa_cons (pe_d c_spare_places hr (by decide) (by rfl) (pa_cons (pv 0) (pa_cons (pe_tup pa_nil) pa_nil))) pa_nil)))))))
      (pss_cons (ps_set (i := 3) sc__law_by_hand_right.nd rfl (Or.inl rfl) (pe_lst (pa_cons pe_bl (pa_cons pe_bl (pa_cons pe_bl (pa_cons pe_int (pa_cons (pe_tup (pa_cons pe_int pa_nil)) pa_nil)))))))
      (pss_cons (ps_set (i := 2) sc__law_by_hand_right.nd rfl (Or.inl rfl) (pe_op op_cat (pv 2) (pe_lst (pa_cons (pe_d c__law_just hr (by decide) (by rfl) (pa_cons (pv 0) (pa_cons (pe_tup pa_nil) (pa_cons (pe_d c__law_heard hr (by decide) (by rfl) (pa_cons pe_int (pa_cons (pv 0) (pa_cons (pe_tup pa_nil) pa_nil)))) pa_nil)))) (pa_cons (pe_d c_can_together hr (by decide) (by rfl) (pa_cons (pv 0) (pa_cons (pe_tup (pa_cons pe_int pa_nil)) pa_nil))) (pa_cons (pe_d c__law_heard hr (by decide) (by rfl) (pa_cons pe_int (pa_cons (pv 0) (pa_cons (pe_tup (pa_cons pe_int pa_nil)) pa_nil)))) (pa_cons (pe_d c__law_heard hr (by decide) (by rfl) (pa_cons pe_int (pa_cons (pv 0) (pa_cons (pe_tup (pa_cons pe_int pa_nil)) pa_nil)))) pa_nil)))))))
      (pss_cons (ps_set (i := 3) sc__law_by_hand_right.nd rfl (Or.inl rfl) (pe_op op_cat (pv 3) (pe_lst (pa_cons pe_bl (pa_cons pe_bl (pa_cons (pe_tupRg rfl (by rfl) T.tuple (prg_1 (by rfl) T.range pe_int)) (pa_cons (pe_tup (pa_cons pe_int pa_nil)) pa_nil)))))))
      (pss_cons (ps_set (i := 4) sc__law_by_hand_right.nd rfl (Or.inl rfl) (pe_tup (pa_cons pe_int (pa_cons (pe_callTy (crTup K) (by rfl) T.tuple (by decide +kernel) (pa_cons (pe_lc (own := [("_law_k", 1)]) rfl sc__law_by_hand_right.nd (pi_range1 rfl T.range (pa_cons pe_int pa_nil)) (blkOk_by rfl) (fun _ _ _ _ _ => (pg_name (i := 1) sc__law_by_hand_right.nd rfl (Or.inl rfl))) (fun _ _ _ _ _ => pts_nil) (fun _ _ _ _ _ => (pe_tup (pa_cons (pv 1) (pa_cons (pe_op op_modN (pe_callTy call_int1 (by rfl) T.int (by decide +kernel) (pa_cons (pe_op op_add (pv 1) pe_int) pa_nil)) pe_int) pa_nil))))) pa_nil)) pa_nil))))
      (pss_cons (ps_set (i := 2) sc__law_by_hand_right.nd rfl (Or.inl rfl) (pe_op op_cat (pv 2) (pe_lst (pa_cons (pe_d c_can_be_without hr (by decide) (by rfl) (pa_cons (pv 4) (pa_cons (pe_tup pa_nil) pa_nil))) (pa_cons (pe_d c_spare_places hr (by decide) (by rfl) (pa_cons (pv 4) (pa_cons (pe_tup pa_nil) pa_nil))) (pa_cons (pe_d c_can_together hr (by decide) (by rfl) (pa_cons (pv 4) (pa_cons (pe_tup (pa_cons pe_int pa_nil)) pa_nil))) (pa_cons (pe_d c__law_just hr (by decide) (by rfl) (pa_cons (pv 4) (pa_cons (pe_tup pa_nil) (pa_cons (pe_d c__law_heard hr (by decide) (by rfl) (pa_cons pe_int (pa_cons (pv 4) (pa_cons (pe_tup pa_nil) pa_nil)))) pa_nil)))) pa_nil)))))))
      (pss_cons (ps_set (i := 3) sc__law_by_hand_right.nd rfl (Or.inl rfl) (pe_op op_cat (pv 3) (pe_lst (pa_cons pe_bl (pa_cons (pe_tup pa_nil) (pa_cons pe_bl (pa_cons pe_bl pa_nil)))))))
      (pss_cons (ps_set (i := 5) sc__law_by_hand_right.nd rfl (Or.inr rfl) (pe_tup (pa_cons pe_int (pa_cons (pe_callTy (crTup K) (by rfl) T.tuple (by decide +kernel) (pa_cons (pe_lc (own := [("_law_k", 1)]) rfl sc__law_by_hand_right.nd (pi_range1 rfl T.range (pa_cons pe_int pa_nil)) (blkOk_by rfl) (fun _ _ _ _ _ => (pg_name (i := 1) sc__law_by_hand_right.nd rfl (Or.inl rfl))) (fun _ _ _ _ _ => pts_nil) (fun _ _ _ _ _ => (pe_ifExp (pt_cmpR op_lt (pv 1) pe_int (nomark _)) (pe_tup (pa_cons (pe_op op_add (pv 1) pe_int) (pa_cons (pv 1) pa_nil))) (pe_tup (pa_cons (pv 1) (pa_cons (pe_op op_add (pv 1) pe_int) pa_nil)))))) pa_nil)) pa_nil))))
      (pss_cons (ps_set (i := 2) sc__law_by_hand_right.nd rfl (Or.inl rfl) (pe_op op_cat (pv 2) (pe_lst (pa_cons (pe_d c_can_be_without hr (by decide) (by rfl) (pa_cons (pv 5) (pa_cons (pe_tup (pa_cons pe_int pa_nil)) pa_nil))) (pa_cons (pe_d c_how_many_free hr (by decide) (by rfl) (pa_cons (pv 5) (pa_cons (pe_tup (pa_cons pe_int pa_nil)) pa_nil))) (pa_cons (pe_d c_spare_places hr (by decide) (by rfl) (pa_cons (pv 5) (pa_cons (pe_tup (pa_cons pe_int pa_nil)) pa_nil))) (pa_cons (pe_d c__law_just hr (by decide) (by rfl) (pa_cons (pv 5) (pa_cons (pe_tup (pa_cons pe_int pa_nil)) (pa_cons (pe_d c__law_heard hr (by decide) (by rfl) (pa_cons pe_int (pa_cons (pv 5) (pa_cons (pe_tup (pa_cons pe_int pa_nil)) pa_nil)))) pa_nil)))) pa_nil)))))))
      (pss_cons (ps_set (i := 3) sc__law_by_hand_right.nd rfl (Or.inl rfl) (pe_op op_cat (pv 3) (pe_lst (pa_cons pe_bl (pa_cons pe_int (pa_cons (pe_tup (pa_cons pe_int (pa_cons pe_int pa_nil))) (pa_cons pe_bl pa_nil)))))))
      (pss_cons (ps_set (i := 2) sc__law_by_hand_right.nd rfl (Or.inl rfl) (pe_op op_cat (pv 2) (pe_lst (pa_cons (pe_d c_can_be_without hr (by decide) (by rfl) (pa_cons (pv 5) (pa_cons (pe_tup (pa_cons pe_int pa_nil)) pa_nil))) (pa_cons (pe_d c__law_heard hr (by decide) (by rfl) (pa_cons pe_int (pa_cons (pv 5) (pa_cons (pe_tup (pa_cons pe_int pa_nil)) pa_nil)))) (pa_cons (pe_d c_can_together hr (by decide) (by rfl) (pa_cons (pv 5) (pa_cons (pe_tup (pa_cons pe_int (pa_cons pe_int pa_nil))) pa_nil))) (pa_cons (pe_d c__law_heard hr (by decide) (by rfl) (pa_cons pe_int (pa_cons (pv 5) (pa_cons (pe_tup (pa_cons pe_int (pa_cons pe_int pa_nil))) pa_nil)))) pa_nil)))))))
      (pss_cons (ps_set (i := 6) sc__law_by_hand_right.nd rfl (Or.inr rfl) (pe_d c_order_leaving hr (by decide) (by rfl) (pa_cons (pv 5) (pa_cons (pe_tup (pa_cons pe_int pa_nil)) (pa_cons (pe_tup (pa_cons pe_int (pa_cons pe_int pa_nil))) pa_nil)))))
      (pss_cons (ps_if (PW.pt (pw_or (pt_not (pt_val (pe_d c__law_same hr (by decide) (by rfl) (pa_cons (pv 2) (pa_cons (pe_op op_cat (pv 3) (pe_lst (pa_cons pe_bl (pa_cons (pe_tup (pa_cons pe_int pa_nil)) (pa_cons pe_bl (pa_cons (pe_tupRg rfl (by rfl) T.tuple (prg_2 (by rfl) T.range pe_int pe_int)) pa_nil)))))) pa_nil))))) (pw_or1 (pt_not (pt_val (pe_d c__law_just hr (by decide) (by rfl) (pa_cons (pv 5) (pa_cons (pe_tup (pa_cons pe_int pa_nil)) (pa_cons (pv 6) pa_nil))))))))) (pss_one (ps_ret pe_bl)) pss_nil)
      (pss_one (ps_ret (pe_cmpR (opEqD K hr) (pe_lc (own := [("_law_spot", 7)]) rfl sc__law_by_hand_right.nd (pi_range1 rfl T.range (pa_cons pe_int pa_nil)) (blkOk_by rfl) (fun _ _ _ _ _ => (pg_name (i := 7) sc__law_by_hand_right.nd rfl (Or.inl rfl))) (fun _ _ _ _ _ => (pts_one (pt_cmpR (opNi K) (pv 7) (pe_d c__law_run hr (by decide) (by rfl) (pa_cons (pv 5) (pa_cons (pv 6) pa_nil))) rfl))) (fun _ _ _ _ _ => (pv 7))) (pe_lst (pa_cons pe_int (pa_cons pe_int pa_nil))) (nomark _)))))))))))))))))), ?_⟩
  rintro ds r _ ⟨rfl, rfl⟩
  show Run C E _ [.un, .un, .un, .un, .un, .un, .un, .un] _
  refine run_seq1 (ρ1 := [.va (encW line40), .un, .un, .un, .un, .un, .un, .un]) (run_set (EvD.is (ev_tup (xs := [nD 40, .tup ((List.range 39).map fun k => .tup [nD k, nD (k + 1)])]) (ea_cons (ev_c fun _ => .int _) (ea_cons (ev_tupL (ev_lcM (vs := [1]) (List.range 39) nD (fun k => .tup [nD k, nD (k + 1)]) (fun k => [.un, .va (nD k), .un, .un, .un, .un, .un, .un]) (ei_range1 (n := 39) (ea_cons (ev_c fun _ => .int _) ea_nil) (by simp)) (by simp) rfl (fun x _ => eg_name 1) (fun x _ => (ev_tup (xs := [_, _]) (ea_cons (ev_var rfl) (ea_cons (EvD.is (ev_op (ev_var rfl) (ev_c fun _ => .int _) opv_int) (by simp)) ea_nil)) (by simp))) (fun _ _ => rfl) (by simp))) ea_nil)) (by simp)) enc_line40) rfl) ?_
  refine run_seq1 (ρ1 := [.va (encW line40), .un, .va (.lst [.bl true, .bl false, .bl false, nD 1, nT [39]]), .un, .un, .un, .un, .un]) (run_set (EvD.fz (ev_lst (xs := [.bl true, .bl false, .bl false, nD 1, nT [39]]) (ea_cons (EvD.is (ev_callD (ds := [encW line40, nT []]) (ea_cons (ev_var rfl) (ea_cons (ev_tup (xs := []) ea_nil (by simp)) ea_nil)) ⟨line40, [], _, _, (inW_of line40_ok).1, (inL_of (l := []) line40_ok ⟨by decide +kernel, by decide +kernel⟩).1, rfl, rfl⟩ rfl) (by rw [l1] <;> rfl)) (ea_cons (EvD.is (ev_callD (ds := [encW line40, nT [38]]) (ea_cons (ev_var rfl) (ea_cons (ev_tup (xs := [nD 38]) (ea_cons (ev_c fun _ => .int _) ea_nil) (by simp)) ea_nil)) ⟨line40, [38], _, _, (inW_of line40_ok).1, (inL_of (l := [38]) line40_ok ⟨by decide +kernel, by decide +kernel⟩).1, rfl, rfl⟩ rfl) (by rw [l2] <;> rfl)) (ea_cons (EvD.is (ev_callD (ds := [encW line40, nT [20]]) (ea_cons (ev_var rfl) (ea_cons (ev_tup (xs := [nD 20]) (ea_cons (ev_c fun _ => .int _) ea_nil) (by simp)) ea_nil)) ⟨line40, [20], _, _, (inW_of line40_ok).1, (inL_of (l := [20]) line40_ok ⟨by decide +kernel, by decide +kernel⟩).1, rfl, rfl⟩ rfl) (by rw [l3] <;> rfl)) (ea_cons (EvD.is (ev_callD (ds := [encW line40, nT []]) (ea_cons (ev_var rfl) (ea_cons (ev_tup (xs := []) ea_nil (by simp)) ea_nil)) ⟨line40, [], _, _, (inW_of line40_ok).1, (inL_of (l := []) line40_ok ⟨by decide +kernel, by decide +kernel⟩).1, l1, rfl, rfl⟩ rfl) (congrArg D.int (by decide +kernel))) (ea_cons (EvD.is (ev_callD (ds := [encW line40, nT []]) (ea_cons (ev_var rfl) (ea_cons (ev_tup (xs := []) ea_nil (by simp)) ea_nil)) ⟨line40, [], _, _, (inW_of line40_ok).1, (inL_of (l := []) line40_ok ⟨by decide +kernel, by decide +kernel⟩).1, l1, rfl, rfl⟩ rfl) (by rw [l4] <;> rfl)) ea_nil))))) (by simp))) rfl) ?_
  refine run_seq1 (ρ1 := [.va (encW line40), .un, .va (.lst [.bl true, .bl false, .bl false, nD 1, nT [39]]), .va (.lst [.bl true, .bl false, .bl false, nD 1, nT [39]]), .un, .un, .un, .un]) (run_set (EvD.fz (ev_lst (xs := [.bl true, .bl false, .bl false, nD 1, nT [39]]) (ea_cons (ev_c fun _ => .bl _) (ea_cons (ev_c fun _ => .bl _) (ea_cons (ev_c fun _ => .bl _) (ea_cons (ev_c fun _ => .int _) (ea_cons (ev_tup (xs := [nD 39]) (ea_cons (ev_c fun _ => .int _) ea_nil) (by simp)) ea_nil))))) (by simp))) rfl) ?_
  refine run_seq1 (ρ1 := [.va (encW line40), .un, .va (.lst ([.bl true, .bl false, .bl false, nD 1, nT [39]] ++ [.bl true, .bl false, nT (List.range 8), nT [0]])), .va (.lst [.bl true, .bl false, .bl false, nD 1, nT [39]]), .un, .un, .un, .un]) (run_set (EvD.fz (ev_opO (ev_var rfl) (EvD.fz (ev_lst (xs := [.bl true, .bl false, nT (List.range 8), nT [0]]) (ea_cons (EvD.is (ev_callD (ds := [encW line40, nT [], heardD line40 [] 0]) (ea_cons (ev_var rfl) (ea_cons (ev_tup (xs := []) ea_nil (by simp)) (ea_cons (ev_callD (ds := [nD 0, encW line40, nT []]) (ea_cons (ev_c fun _ => .int _) (ea_cons (ev_var rfl) (ea_cons (ev_tup (xs := []) ea_nil (by simp)) ea_nil))) ⟨line40, [], 0, line40_ok, ⟨by decide +kernel, by decide +kernel⟩, by decide +kernel, by omega, rfl, rfl⟩ rfl) ea_nil))) (told_just line40_ok ⟨by decide +kernel, by decide +kernel⟩) rfl) (by rw [l1] <;> rfl)) (ea_cons (EvD.is (ev_callD (ds := [encW line40, nT [7]]) (ea_cons (ev_var rfl) (ea_cons (ev_tup (xs := [nD 7]) (ea_cons (ev_c fun _ => .int _) ea_nil) (by simp)) ea_nil)) ⟨line40, [7], _, _, (inW_of line40_ok).1, (inL_of (l := [7]) line40_ok ⟨by decide +kernel, by decide +kernel⟩).1, rfl, rfl⟩ rfl) (by rw [l5] <;> rfl)) (ea_cons (EvD.is (ev_callD (ds := [nD 3, encW line40, nT [7]]) (ea_cons (ev_c fun _ => .int _) (ea_cons (ev_var rfl) (ea_cons (ev_tup (xs := [nD 7]) (ea_cons (ev_c fun _ => .int _) ea_nil) (by simp)) ea_nil))) ⟨line40, [7], 3, line40_ok, ⟨by decide +kernel, by decide +kernel⟩, by decide +kernel, by omega, rfl, rfl⟩ rfl) (by show ((barringIn line40 [7]).head?.map nT).getD canD = _; rw [l5] <;> rfl)) (ea_cons (EvD.is (ev_callD (ds := [nD 1, encW line40, nT [0]]) (ea_cons (ev_c fun _ => .int _) (ea_cons (ev_var rfl) (ea_cons (ev_tup (xs := [nD 0]) (ea_cons (ev_c fun _ => .int _) ea_nil) (by simp)) ea_nil))) ⟨line40, [0], 1, line40_ok, ⟨by decide +kernel, by decide +kernel⟩, by decide +kernel, by omega, rfl, rfl⟩ rfl) (by show ((badIn line40 [0]).head?.map nT).getD canD = _; rw [l6] <;> rfl)) ea_nil)))) (by simp))) (opo_cat (by simp)))) rfl) ?_
  refine run_seq1 (ρ1 := [.va (encW line40), .un, .va (.lst ([.bl true, .bl false, .bl false, nD 1, nT [39]] ++ [.bl true, .bl false, nT (List.range 8), nT [0]])), .va (.lst ([.bl true, .bl false, .bl false, nD 1, nT [39]] ++ [.bl true, .bl false, nT (List.range 8), nT [0]])), .un, .un, .un, .un]) (run_set (EvD.fz (ev_opO (ev_var rfl) (EvD.fz (ev_lst (xs := [.bl true, .bl false, nT (List.range 8), nT [0]]) (ea_cons (ev_c fun _ => .bl _) (ea_cons (ev_c fun _ => .bl _) (ea_cons (ev_tupRg (ev_c fun _ => .int _) (by omega)) (ea_cons (ev_tup (xs := [nD 0]) (ea_cons (ev_c fun _ => .int _) ea_nil) (by simp)) ea_nil)))) (by simp))) (opo_cat (by simp)))) rfl) ?_
  refine run_seq1 (ρ1 := [.va (encW line40), .un, .va (.lst ([.bl true, .bl false, .bl false, nD 1, nT [39]] ++ [.bl true, .bl false, nT (List.range 8), nT [0]])), .va (.lst ([.bl true, .bl false, .bl false, nD 1, nT [39]] ++ [.bl true, .bl false, nT (List.range 8), nT [0]])), .va (encW table40), .un, .un, .un]) (run_set (EvD.is (ev_tup (xs := [nD 40, .tup ((List.range 40).map fun k => .tup [nD k, nD ((k + 1) % 40)])]) (ea_cons (ev_c fun _ => .int _) (ea_cons (ev_tupL (ev_lcM (vs := [1]) (List.range 40) nD (fun k => .tup [nD k, nD ((k + 1) % 40)]) (fun k => [.va (encW line40), .va (nD k), .va (.lst ([.bl true, .bl false, .bl false, nD 1, nT [39]] ++ [.bl true, .bl false, nT (List.range 8), nT [0]])), .va (.lst ([.bl true, .bl false, .bl false, nD 1, nT [39]] ++ [.bl true, .bl false, nT (List.range 8), nT [0]])), .un, .un, .un, .un]) (ei_range1 (n := 40) (ea_cons (ev_c fun _ => .int _) ea_nil) (by simp)) (by simp) rfl (fun x _ => eg_name 1) (fun x _ => (ev_tup (xs := [_, _]) (ea_cons (ev_var rfl) (ea_cons (EvD.is (ev_op (ev_call (xs := [_]) (ea_cons (ev_op (ev_var rfl) (ev_c fun _ => .int _) opv_int) ea_nil) cv_intI) (ev_c fun _ => .int _) (opv_intC (by omega))) (d' := nD ((x + 1) % 40)) (by show D.int _ = D.int _; first | (congr 1; done) | (congr 1; rw [Int.fmod_eq_emod_of_nonneg _ (by omega)]; done) | (congr 1; rw [Int.fmod_eq_emod_of_nonneg _ (by omega)]; simp))) ea_nil)) (by simp))) (fun _ _ => rfl) (by simp))) ea_nil)) (by simp)) enc_table40) rfl) ?_
  refine run_seq1 (ρ1 := [.va (encW line40), .un, .va (.lst (([.bl true, .bl false, .bl false, nD 1, nT [39]] ++ [.bl true, .bl false, nT (List.range 8), nT [0]]) ++ [.bl true, nT [], .bl false, .bl true])), .va (.lst ([.bl true, .bl false, .bl false, nD 1, nT [39]] ++ [.bl true, .bl false, nT (List.range 8), nT [0]])), .va (encW table40), .un, .un, .un]) (run_set (EvD.fz (ev_opO (ev_var rfl) (EvD.fz (ev_lst (xs := [.bl true, nT [], .bl false, .bl true]) (ea_cons (EvD.is (ev_callD (ds := [encW table40, nT []]) (ea_cons (ev_var rfl) (ea_cons (ev_tup (xs := []) ea_nil (by simp)) ea_nil)) ⟨table40, [], _, _, (inW_of table40_ok).1, (inL_of (l := []) table40_ok ⟨by decide +kernel, by decide +kernel⟩).1, rfl, rfl⟩ rfl) (by rw [t1] <;> rfl)) (ea_cons (EvD.is (ev_callD (ds := [encW table40, nT []]) (ea_cons (ev_var rfl) (ea_cons (ev_tup (xs := []) ea_nil (by simp)) ea_nil)) ⟨table40, [], _, _, (inW_of table40_ok).1, (inL_of (l := []) table40_ok ⟨by decide +kernel, by decide +kernel⟩).1, t1, rfl, rfl⟩ rfl) (by rw [t2] <;> rfl)) (ea_cons (EvD.is (ev_callD (ds := [encW table40, nT [9]]) (ea_cons (ev_var rfl) (ea_cons (ev_tup (xs := [nD 9]) (ea_cons (ev_c fun _ => .int _) ea_nil) (by simp)) ea_nil)) ⟨table40, [9], _, _, (inW_of table40_ok).1, (inL_of (l := [9]) table40_ok ⟨by decide +kernel, by decide +kernel⟩).1, rfl, rfl⟩ rfl) (by rw [t3] <;> rfl)) (ea_cons (EvD.is (ev_callD (ds := [encW table40, nT [], heardD table40 [] 0]) (ea_cons (ev_var rfl) (ea_cons (ev_tup (xs := []) ea_nil (by simp)) (ea_cons (ev_callD (ds := [nD 0, encW table40, nT []]) (ea_cons (ev_c fun _ => .int _) (ea_cons (ev_var rfl) (ea_cons (ev_tup (xs := []) ea_nil (by simp)) ea_nil))) ⟨table40, [], 0, table40_ok, ⟨by decide +kernel, by decide +kernel⟩, by decide +kernel, by omega, rfl, rfl⟩ rfl) ea_nil))) (told_just table40_ok ⟨by decide +kernel, by decide +kernel⟩) rfl) (by rw [t1] <;> rfl)) ea_nil)))) (by simp))) (opo_cat (by simp)))) rfl) ?_
  refine run_seq1 (ρ1 := [.va (encW line40), .un, .va (.lst (([.bl true, .bl false, .bl false, nD 1, nT [39]] ++ [.bl true, .bl false, nT (List.range 8), nT [0]]) ++ [.bl true, nT [], .bl false, .bl true])), .va (.lst (([.bl true, .bl false, .bl false, nD 1, nT [39]] ++ [.bl true, .bl false, nT (List.range 8), nT [0]]) ++ [.bl true, nT [], .bl false, .bl true])), .va (encW table40), .un, .un, .un]) (run_set (EvD.fz (ev_opO (ev_var rfl) (EvD.fz (ev_lst (xs := [.bl true, nT [], .bl false, .bl true]) (ea_cons (ev_c fun _ => .bl _) (ea_cons (ev_tup (xs := []) ea_nil (by simp)) (ea_cons (ev_c fun _ => .bl _) (ea_cons (ev_c fun _ => .bl _) ea_nil)))) (by simp))) (opo_cat (by simp)))) rfl) ?_
  refine run_seq1 (ρ1 := [.va (encW line40), .un, .va (.lst (([.bl true, .bl false, .bl false, nD 1, nT [39]] ++ [.bl true, .bl false, nT (List.range 8), nT [0]]) ++ [.bl true, nT [], .bl false, .bl true])), .va (.lst (([.bl true, .bl false, .bl false, nD 1, nT [39]] ++ [.bl true, .bl false, nT (List.range 8), nT [0]]) ++ [.bl true, nT [], .bl false, .bl true])), .va (encW table40), .va (encW mid40), .un, .un]) (run_set (EvD.is (ev_tup (xs := [nD 40, .tup ((List.range 39).map fun k => encP (if k < 20 then (k + 1, k) else (k, k + 1)))]) (ea_cons (ev_c fun _ => .int _) (ea_cons (ev_tupL (ev_lcM (vs := [1]) (List.range 39) nD (fun k => encP (if k < 20 then (k + 1, k) else (k, k + 1))) (fun k => [.va (encW line40), .va (nD k), .va (.lst (([.bl true, .bl false, .bl false, nD 1, nT [39]] ++ [.bl true, .bl false, nT (List.range 8), nT [0]]) ++ [.bl true, nT [], .bl false, .bl true])), .va (.lst (([.bl true, .bl false, .bl false, nD 1, nT [39]] ++ [.bl true, .bl false, nT (List.range 8), nT [0]]) ++ [.bl true, nT [], .bl false, .bl true])), .va (encW table40), .un, .un, .un]) (ei_range1 (n := 39) (ea_cons (ev_c fun _ => .int _) ea_nil) (by simp)) (by simp) rfl (fun x _ => eg_name 1) (fun x _ => (ev_if (et_test (ev_op (ev_var rfl) (ev_c fun _ => .int _) opv_bl)) (b := decide ((x : Int) < 20)) (r := .va (encP (if x < 20 then (x + 1, x) else (x, x + 1)))) (fun hb => by rw [if_pos (by have := of_decide_eq_true hb; omega)]; exact (ev_tup (xs := [_, _]) (ea_cons (EvD.is (ev_op (ev_var rfl) (ev_c fun _ => .int _) opv_int) (by simp)) (ea_cons (ev_var rfl) ea_nil)) (by simp))) (fun hb => by rw [if_neg (by have := of_decide_eq_false hb; omega)]; exact (ev_tup (xs := [_, _]) (ea_cons (ev_var rfl) (ea_cons (EvD.is (ev_op (ev_var rfl) (ev_c fun _ => .int _) opv_int) (by simp)) ea_nil)) (by simp))))) (fun _ _ => rfl) (by simp))) ea_nil)) (by simp)) enc_mid40) rfl) ?_
  refine run_seq1 (ρ1 := [.va (encW line40), .un, .va (.lst ((([.bl true, .bl false, .bl false, nD 1, nT [39]] ++ [.bl true, .bl false, nT (List.range 8), nT [0]]) ++ [.bl true, nT [], .bl false, .bl true]) ++ [.bl true, nD 2, nT [0, 39], .bl true])), .va (.lst (([.bl true, .bl false, .bl false, nD 1, nT [39]] ++ [.bl true, .bl false, nT (List.range 8), nT [0]]) ++ [.bl true, nT [], .bl false, .bl true])), .va (encW table40), .va (encW mid40), .un, .un]) (run_set (EvD.fz (ev_opO (ev_var rfl) (EvD.fz (ev_lst (xs := [.bl true, nD 2, nT [0, 39], .bl true]) (ea_cons (EvD.is (ev_callD (ds := [encW mid40, nT [19]]) (ea_cons (ev_var rfl) (ea_cons (ev_tup (xs := [nD 19]) (ea_cons (ev_c fun _ => .int _) ea_nil) (by simp)) ea_nil)) ⟨mid40, [19], _, _, (inW_of mid40_ok).1, (inL_of (l := [19]) mid40_ok ⟨by decide +kernel, by decide +kernel⟩).1, rfl, rfl⟩ rfl) (by rw [m1] <;> rfl)) (ea_cons (EvD.is (ev_callD (ds := [encW mid40, nT [19]]) (ea_cons (ev_var rfl) (ea_cons (ev_tup (xs := [nD 19]) (ea_cons (ev_c fun _ => .int _) ea_nil) (by simp)) ea_nil)) ⟨mid40, [19], _, _, (inW_of mid40_ok).1, (inL_of (l := [19]) mid40_ok ⟨by decide +kernel, by decide +kernel⟩).1, m1, rfl, rfl⟩ rfl) (congrArg D.int (by decide +kernel))) (ea_cons (EvD.is (ev_callD (ds := [encW mid40, nT [19]]) (ea_cons (ev_var rfl) (ea_cons (ev_tup (xs := [nD 19]) (ea_cons (ev_c fun _ => .int _) ea_nil) (by simp)) ea_nil)) ⟨mid40, [19], _, _, (inW_of mid40_ok).1, (inL_of (l := [19]) mid40_ok ⟨by decide +kernel, by decide +kernel⟩).1, m1, rfl, rfl⟩ rfl) (by rw [m2] <;> rfl)) (ea_cons (EvD.is (ev_callD (ds := [encW mid40, nT [19], heardD mid40 [19] 0]) (ea_cons (ev_var rfl) (ea_cons (ev_tup (xs := [nD 19]) (ea_cons (ev_c fun _ => .int _) ea_nil) (by simp)) (ea_cons (ev_callD (ds := [nD 0, encW mid40, nT [19]]) (ea_cons (ev_c fun _ => .int _) (ea_cons (ev_var rfl) (ea_cons (ev_tup (xs := [nD 19]) (ea_cons (ev_c fun _ => .int _) ea_nil) (by simp)) ea_nil))) ⟨mid40, [19], 0, mid40_ok, ⟨by decide +kernel, by decide +kernel⟩, by decide +kernel, by omega, rfl, rfl⟩ rfl) ea_nil))) (told_just mid40_ok ⟨by decide +kernel, by decide +kernel⟩) rfl) (by rw [m1] <;> rfl)) ea_nil)))) (by simp))) (opo_cat (by simp)))) rfl) ?_
  refine run_seq1 (ρ1 := [.va (encW line40), .un, .va (.lst ((([.bl true, .bl false, .bl false, nD 1, nT [39]] ++ [.bl true, .bl false, nT (List.range 8), nT [0]]) ++ [.bl true, nT [], .bl false, .bl true]) ++ [.bl true, nD 2, nT [0, 39], .bl true])), .va (.lst ((([.bl true, .bl false, .bl false, nD 1, nT [39]] ++ [.bl true, .bl false, nT (List.range 8), nT [0]]) ++ [.bl true, nT [], .bl false, .bl true]) ++ [.bl true, nD 2, nT [0, 39], .bl true])), .va (encW table40), .va (encW mid40), .un, .un]) (run_set (EvD.fz (ev_opO (ev_var rfl) (EvD.fz (ev_lst (xs := [.bl true, nD 2, nT [0, 39], .bl true]) (ea_cons (ev_c fun _ => .bl _) (ea_cons (ev_c fun _ => .int _) (ea_cons (ev_tup (xs := [nD 0, nD 39]) (ea_cons (ev_c fun _ => .int _) (ea_cons (ev_c fun _ => .int _) ea_nil)) (by simp)) (ea_cons (ev_c fun _ => .bl _) ea_nil)))) (by simp))) (opo_cat (by simp)))) rfl) ?_
  refine run_seq1 (ρ1 := [.va (encW line40), .un, .va (.lst (((([.bl true, .bl false, .bl false, nD 1, nT [39]] ++ [.bl true, .bl false, nT (List.range 8), nT [0]]) ++ [.bl true, nT [], .bl false, .bl true]) ++ [.bl true, nD 2, nT [0, 39], .bl true]) ++ [.bl false, nT [0], .bl false, nT ((List.range 25).map fun i => 6 + i)])), .va (.lst ((([.bl true, .bl false, .bl false, nD 1, nT [39]] ++ [.bl true, .bl false, nT (List.range 8), nT [0]]) ++ [.bl true, nT [], .bl false, .bl true]) ++ [.bl true, nD 2, nT [0, 39], .bl true])), .va (encW table40), .va (encW mid40), .un, .un]) (run_set (EvD.fz (ev_opO (ev_var rfl) (EvD.fz (ev_lst (xs := [.bl false, nT [0], .bl false, nT ((List.range 25).map fun i => 6 + i)]) (ea_cons (EvD.is (ev_callD (ds := [encW mid40, nT [0]]) (ea_cons (ev_var rfl) (ea_cons (ev_tup (xs := [nD 0]) (ea_cons (ev_c fun _ => .int _) ea_nil) (by simp)) ea_nil)) ⟨mid40, [0], _, _, (inW_of mid40_ok).1, (inL_of (l := [0]) mid40_ok ⟨by decide +kernel, by decide +kernel⟩).1, rfl, rfl⟩ rfl) (by rw [m0] <;> rfl)) (ea_cons (EvD.is (ev_callD (ds := [nD 1, encW mid40, nT [0]]) (ea_cons (ev_c fun _ => .int _) (ea_cons (ev_var rfl) (ea_cons (ev_tup (xs := [nD 0]) (ea_cons (ev_c fun _ => .int _) ea_nil) (by simp)) ea_nil))) ⟨mid40, [0], 1, mid40_ok, ⟨by decide +kernel, by decide +kernel⟩, by decide +kernel, by omega, rfl, rfl⟩ rfl) (by show ((badIn mid40 [0]).head?.map nT).getD canD = _; rw [m3] <;> rfl)) (ea_cons (EvD.is (ev_callD (ds := [encW mid40, nT [5, 30]]) (ea_cons (ev_var rfl) (ea_cons (ev_tup (xs := [nD 5, nD 30]) (ea_cons (ev_c fun _ => .int _) (ea_cons (ev_c fun _ => .int _) ea_nil)) (by simp)) ea_nil)) ⟨mid40, [5, 30], _, _, (inW_of mid40_ok).1, (inL_of (l := [5, 30]) mid40_ok ⟨by decide +kernel, by decide +kernel⟩).1, rfl, rfl⟩ rfl) (by rw [m4b] <;> rfl)) (ea_cons (EvD.is (ev_callD (ds := [nD 3, encW mid40, nT [5, 30]]) (ea_cons (ev_c fun _ => .int _) (ea_cons (ev_var rfl) (ea_cons (ev_tup (xs := [nD 5, nD 30]) (ea_cons (ev_c fun _ => .int _) (ea_cons (ev_c fun _ => .int _) ea_nil)) (by simp)) ea_nil))) ⟨mid40, [5, 30], 3, mid40_ok, ⟨by decide +kernel, by decide +kernel⟩, by decide +kernel, by omega, rfl, rfl⟩ rfl) (by show ((barringIn mid40 [5, 30]).head?.map nT).getD canD = _; rw [m4] <;> rfl)) ea_nil)))) (by simp))) (opo_cat (by simp)))) rfl) ?_
  refine run_seq1 (ρ1 := [.va (encW line40), .un, .va (.lst (((([.bl true, .bl false, .bl false, nD 1, nT [39]] ++ [.bl true, .bl false, nT (List.range 8), nT [0]]) ++ [.bl true, nT [], .bl false, .bl true]) ++ [.bl true, nD 2, nT [0, 39], .bl true]) ++ [.bl false, nT [0], .bl false, nT ((List.range 25).map fun i => 6 + i)])), .va (.lst ((([.bl true, .bl false, .bl false, nD 1, nT [39]] ++ [.bl true, .bl false, nT (List.range 8), nT [0]]) ++ [.bl true, nT [], .bl false, .bl true]) ++ [.bl true, nD 2, nT [0, 39], .bl true])), .va (encW table40), .va (encW mid40), .va (nT walkM), .un]) (run_set (ev_callD (ds := [encW mid40, nT [19], nT [0, 39]]) (ea_cons (ev_var rfl) (ea_cons (ev_tup (xs := [nD 19]) (ea_cons (ev_c fun _ => .int _) ea_nil) (by simp)) (ea_cons (ev_tup (xs := [nD 0, nD 39]) (ea_cons (ev_c fun _ => .int _) (ea_cons (ev_c fun _ => .int _) ea_nil)) (by simp)) ea_nil))) ⟨mid40, [19], [0, 39], _, _, _, (inW_of mid40_ok).1, (inL_of (l := [19]) mid40_ok ⟨by decide +kernel, by decide +kernel⟩).1, inp_0_39, rnd_all mid40_ok othersLt (others_nodup _), m1, m8.1, m8.2.1, m8.2.2, rfl, rfl⟩ rfl) rfl) ?_
  refine run_seq1 (run_if (b := false) (et_or (b1 := false) (b2 := false) (et_not (b := true) (et_test (EvD.is (ev_callD (ds := [(.lst (((([.bl true, .bl false, .bl false, nD 1, nT [39]] ++ [.bl true, .bl false, nT (List.range 8), nT [0]]) ++ [.bl true, nT [], .bl false, .bl true]) ++ [.bl true, nD 2, nT [0, 39], .bl true]) ++ [.bl false, nT [0], .bl false, nT ((List.range 25).map fun i => 6 + i)])), (.lst (((([.bl true, .bl false, .bl false, nD 1, nT [39]] ++ [.bl true, .bl false, nT (List.range 8), nT [0]]) ++ [.bl true, nT [], .bl false, .bl true]) ++ [.bl true, nD 2, nT [0, 39], .bl true]) ++ [.bl false, nT [0], .bl false, nT ((List.range 25).map fun i => 6 + i)]))]) (ea_cons (ev_var rfl) (ea_cons (EvD.fz (ev_opO (ev_var rfl) (EvD.fz (ev_lst (xs := [.bl false, nT [0], .bl false, nT ((List.range 25).map fun i => 6 + i)]) (ea_cons (ev_c fun _ => .bl _) (ea_cons (ev_tup (xs := [nD 0]) (ea_cons (ev_c fun _ => .int _) ea_nil) (by simp)) (ea_cons (ev_c fun _ => .bl _) (ea_cons (EvD.is (ev_tupRg2 (a := 6) (n := 25) (ev_c fun _ => .int _) (ev_c fun _ => .int _) (by omega)) (by show _ = D.tup (((List.range 25).map fun i => 6 + i).map nD); rw [List.map_map] <;> rfl)) ea_nil)))) (by simp))) (opo_cat (by simp)))) ea_nil)) ⟨(.lst (((([.bl true, .bl false, .bl false, nD 1, nT [39]] ++ [.bl true, .bl false, nT (List.range 8), nT [0]]) ++ [.bl true, nT [], .bl false, .bl true]) ++ [.bl true, nD 2, nT [0, 39], .bl true]) ++ [.bl false, nT [0], .bl false, nT ((List.range 25).map fun i => 6 + i)])), (.lst (((([.bl true, .bl false, .bl false, nD 1, nT [39]] ++ [.bl true, .bl false, nT (List.range 8), nT [0]]) ++ [.bl true, nT [], .bl false, .bl true]) ++ [.bl true, nD 2, nT [0, 39], .bl true]) ++ [.bl false, nT [0], .bl false, nT ((List.range 25).map fun i => 6 + i)])), by decide +kernel, by decide +kernel, by decide +kernel, by decide +kernel, by decide +kernel, rfl, rfl⟩ rfl) same_hand)))
    fun _ => et_not (b := true) (et_test (EvD.is (ev_callD (ds := [encW mid40, nT [19], nT walkM]) (ea_cons (ev_var rfl) (ea_cons (ev_tup (xs := [nD 19]) (ea_cons (ev_c fun _ => .int _) ea_nil) (by simp)) (ea_cons (ev_var rfl) ea_nil))) ⟨mid40, [19], _, _, mid40_ok, .inl ⟨walkM, rfl, by rw [m5.2]; omega, rfl⟩, rfl, rfl⟩ rfl) (by rw [m6])))) (fun z => by cases z) fun _ => run_next rfl) ?_
  refine run_ret (EvD.is (ev_op (EvD.fz (ev_lcP (vs := [7]) (List.range 40) nD (fun p => !decide (some p ∈ lawRun mid40 walkM)) nD (fun p => [.va (encW line40), .un, .va (.lst (((([.bl true, .bl false, .bl false, nD 1, nT [39]] ++ [.bl true, .bl false, nT (List.range 8), nT [0]]) ++ [.bl true, nT [], .bl false, .bl true]) ++ [.bl true, nD 2, nT [0, 39], .bl true]) ++ [.bl false, nT [0], .bl false, nT ((List.range 25).map fun i => 6 + i)])), .va (.lst ((([.bl true, .bl false, .bl false, nD 1, nT [39]] ++ [.bl true, .bl false, nT (List.range 8), nT [0]]) ++ [.bl true, nT [], .bl false, .bl true]) ++ [.bl true, nD 2, nT [0, 39], .bl true])), .va (encW table40), .va (encW mid40), .va (nT walkM), .va (nD p)]) (ei_range1 (n := 40) (ea_cons (ev_c fun _ => .int _) ea_nil) (by simp)) (by simp) rfl (fun x _ => eg_name 7)
    (fun x _ => et_test (ev_op (ev_var rfl) (ev_callD (ds := [encW mid40, nT walkM]) (ea_cons (ev_var rfl) (ea_cons (ev_var rfl) ea_nil)) ⟨mid40, walkM, mid40_ok, m5.1, by rw [m5.2]; omega, rfl, rfl⟩ rfl) opv_ni_oT)) (fun x _ _ => (ev_var rfl)) (fun _ _ => rfl) (by simp))) (EvD.fz (ev_lst (xs := [nD 0, nD 39]) (ea_cons (ev_c fun _ => .int _) (ea_cons (ev_c fun _ => .int _) ea_nil)) (by simp))) (opv_eq_nL (l := freeBehind mid40 (lawRun mid40 walkM)) (k := [0, 39]))) (by rw [m7] <;> rfl)) rfl
end
end K17
end

section
set_option maxRecDepth 100000
set_option maxHeartbeats 4000000
namespace K17
open PySem PySem.Spec PyProof.Rows L2 DL MN
section
variable {P : Program} {w : World} {K : PySem.W.Frag} {mg : Str → Option Value} {base : Heap} {C : Addr} {f : Addr} {fd : FuncData}


theorem ev_andT {ρ ρ1 : En} {ta tb : TE} {b2 : Bool} (h1 : EvD ta ρ ρ (.va (.bl true))) (h2 : EvD tb ρ ρ1 (.va (.bl b2))) : EvD (tAndV ta tb) ρ ρ1 (.va (.bl b2)) := fun t G0 H0 κ τ G H σ hl m Q q => by
  refine h1 t G0 H0 κ τ G H σ hl m _ fun v G1 H1 m1 => ?_
  have w := m1.last.rep
  cases w
  exact ⟨true, rfl, h2 t G0 H0 κ τ G1 H1 σ hl m1.pop Q q⟩


/-- a def's promise, at its own address -/
theorem mkFn {st : Stmt} {x : Str} {N ps : List Str} {k : Nat} {rel : List D → Option D → Prop} (Dx : DefAt K mg x st f fd) (S : FnScope N ps (defScope st)) (hN : ps.length ≤ N.length)
    (body : ∀ (f : Addr) (cdv : Value) (A : Around) (outer : List Env) (s : Shared) (H : Hp) (E : XK), Room k (A.deeper (envOfC x (defScope st) s.heap.objs.size f cdv)) →
      ∃ ts, PSs (cX P w K mg base N x st f cdv A outer s H E).nox (defBody st) ts ∧ ∀ ds r, ds.length = ps.length → rel ds r → Run C E ts (ds.map Sl.va ++ List.replicate (N.length - ps.length) .un) (PoF r)) : FnOk P w K mg base (L2.CX P w) (k + 1) f fd ps (spD C ps.length rel) :=
  Dx.fn.ok S (spD_len rfl) fun cdv A outer s H vs Q E hr h => by
    obtain ⟨G, ds, r, sg, rs, hn, hrel, hQ, hE⟩ := h
    obtain ⟨ts, hp, hq⟩ := body f cdv A outer s H E hr
    refine ⟨ts, hp.nox, body_run (N := N) sg rs (by rw [rs.length, hn]; exact hN) hQ hE ?_⟩
    have z := hq ds r hn hrel
    rw [← hn, ← rs.length] at z
    exact z

def r_law (ds : List D) (r : Option D) : Prop := ∃ xs : List Int, xs.length ≤ 63 ∧ ds = [.scr K xs] ∧ r = some (.bl true)
theorem cal_law (T : Txt K mg C) (Dx : DefAt K mg "law" s_law f fd) (c__law_box : CalD P w K mg base 1 "_law_box" ["_law_script", "_law_k"] (spO 2 r__law_box)) (c__law_by_hand_right : CalD P w K mg base 12 "_law_by_hand_right" [] (spD C 0 r__law_by_hand_right)) (c__law_cells : CalD P w K mg base 1 "_law_cells" ["_law_script", "_law_most_so"] (spD C 2 (r__law_cells (K := K)))) (c__law_never_right : CalD P w K mg base 9 "_law_never_right" ["_law_turn"] (spD C 1 r__law_never_right)) (c__law_right : CalD P w K mg base 13 "_law_right" ["_law_tin"] (spT 0 r__law_right)) (c__law_take : CalD P w K mg base 1 "_law_take" ["_law_tin", "_law_below_so"] (spT 1 r__law_take)) : FnOk P w K mg base (L2.CX P w) 14 f fd ["_law_script"] (spD C 1 (r_law (K := K))) := by
  refine mkFn Dx sc_law (by decide) fun f cdv A outer s H E hr => have hu := hu_of hr; ⟨_, (pss_cons (ps_if (pt_not (pt_val (pe_d0 c__law_by_hand_right hr (by decide) (by rfl)))) (pss_one (ps_ret pe_bl)) pss_nil)
      (pss_cons (ps_set (i := 1) sc_law.nd rfl (Or.inl rfl) (pe_d c__law_box hr (by decide) (by rfl) (pa_cons (pe_d c__law_cells hr (by decide) (by rfl) (pa_cons (pv 0) (pa_cons pe_int pa_nil))) (pa_cons pe_int pa_nil))))
      (pss_cons (ps_set (i := 2) sc_law.nd rfl (Or.inl rfl) (pe_d c__law_take hr (by decide) (by rfl) (pa_cons (pv 1) (pa_cons pe_int pa_nil))))
      (pss_one (ps_ret (pe_and (pe_or (pe_cmpR op_gt (pv 2) pe_int (nomark _)) (pe_one (pe_d c__law_never_right hr (by decide) (by rfl) (pa_cons (pv 2) pa_nil)))) (pe_one (pe_d c__law_right hr (by decide) (by rfl) (pa_cons (pv 1) pa_nil))))))))), ?_⟩
  rintro ds r _ ⟨xs, hz, rfl, rfl⟩
  show Run C E _ [.va (.scr K xs), .un, .un] _
  refine run_seq1 (run_if (b := false) (et_not (b := true) (et_test (ev_callD (ds := []) ea_nil ⟨rfl, rfl⟩ rfl))) (fun z => by cases z) fun _ => run_next rfl) ?_
  refine run_seq1 (ρ1 := [.va (.scr K xs), .ow (encT (boxF (cellsF xs))), .un]) (run_set (ev_callD_O (ds := [_, _]) (ea_cons (ev_callD (ds := [_, _]) (ea_cons (ev_var rfl) (ea_cons (ev_c fun _ => .int _) ea_nil)) ⟨xs, hz, rfl, rfl⟩ rfl) (ea_cons (ev_c fun _ => .int _) ea_nil)) ⟨cellsF xs, rfl, rfl⟩ rfl) rfl) ?_
  refine run_ti (i := 1) rfl rfl ?_
  show Run C E _ [.va (.scr K xs), .ti (encT (boxF (cellsF xs))), .un] _
  have hs := boxF_ok (cellsF xs)
  generalize boxF (cellsF xs) = s at hs ⊢
  obtain ⟨h1, h2⟩ := takeF_ok hs (m := 12) (by omega)
  refine run_seq1 (run_set (ev_callT (ds := [_]) (st0 := encT s) rfl (ea_cons (ev_c fun _ => .int _) ea_nil) rfl ⟨s, 12, by omega, by omega, hs.mono (by omega), rfl, rfl, rfl, rfl⟩ rfl) rfl) ?_
  generalize takeF 12 s = tk at h1 h2 ⊢
  show Run C E _ [.va (.scr K xs), .ti (encT tk.2), .va (nD tk.1)] _
  exact run_ret (ev_andT (EvD.is (ev_orV (b2 := true) (b1 := decide ((tk.1 : Int) > 2)) (ev_op (ev_var rfl) (ev_c fun _ => .int _) opv_bl) fun hb => ev_callD (ds := [_]) (ea_cons (ev_var rfl) ea_nil) ⟨tk.1, by have := of_decide_eq_false hb; omega, rfl, rfl⟩ rfl) (by simp)) (ev_callT (ds := []) (st0 := encT tk.2) rfl ea_nil rfl ⟨tk.2, h1.mono (by omega), rfl, rfl, rfl, rfl⟩ rfl)) rfl
end
end K17
end

section
set_option maxRecDepth 100000
set_option maxHeartbeats 4000000
/-! The promises chained; the end. -/
namespace K17
open PySem PySem.Spec PyProof.Rows L2 DL MN
section
variable {P : Program} {w : World} {K : PySem.W.Frag} {mg : Str → Option Value} {base : Heap} {C : Addr}
def At (K : PySem.W.Frag) (mg : Str → Option Value) (x : Str) (st : Stmt) : Prop := ∃ (f : Addr) (fd : FuncData), DefAt K mg x st f fd

theorem chain {f : Addr} {fd : FuncData} (T : Txt K mg C) (hE : ExcC K C) (hk : PySem.W.kitOne K (.ref C) (.type "ValueError") = some true) (D_is_number : At K mg "is_number" s_is_number) (D_is_long : At K mg "is_long" s_is_long) (D_ascends : At K mg "ascends" s_ascends) (D_set_of : At K mg "set_of" s_set_of) (D_unwanted_in : At K mg "unwanted_in" s_unwanted_in) (D_others_in : At K mg "others_in" s_others_in) (D_beside_by : At K mg "beside_by" s_beside_by) (D_part_from : At K mg "part_from" s_part_from) (D_guests_in : At K mg "guests_in" s_guests_in) (D_way_from : At K mg "way_from" s_way_from) (D_met_by : At K mg "met_by" s_met_by) (D_next_to : At K mg "next_to" s_next_to) (D_seated_round : At K mg "seated_round" s_seated_round) (D__law_box : At K mg "_law_box" s__law_box) (D__law_take : At K mg "_law_take" s__law_take) (D__law_cells : At K mg "_law_cells" s__law_cells) (D__law_unwanted : At K mg "_law_unwanted" s__law_unwanted) (D__law_seat : At K mg "_law_seat" s__law_seat) (D__law_lacking : At K mg "_law_lacking" s__law_lacking) (D__law_others : At K mg "_law_others" s__law_others) (D__law_parts : At K mg "_law_parts" s__law_parts) (D__law_in_part : At K mg "_law_in_part" s__law_in_part) (D__law_are_within : At K mg "_law_are_within" s__law_are_within) (D__law_is_walk : At K mg "_law_is_walk" s__law_is_walk) (D__law_is_heap : At K mg "_law_is_heap" s__law_is_heap) (D_is_from : At K mg "is_from" s_is_from) (D_is_within : At K mg "is_within" s_is_within) (D_parts_in : At K mg "parts_in" s_parts_in) (D_round_of : At K mg "round_of" s_round_of) (D_spare_in : At K mg "spare_in" s_spare_in) (D_is_tree_in : At K mg "is_tree_in" s_is_tree_in) (D_grown_from : At K mg "grown_from" s_grown_from) (D__law_of : At K mg "_law_of" s__law_of) (D__law_pick : At K mg "_law_pick" s__law_pick) (D__law_run : At K mg "_law_run" s__law_run) (D__law_part_kind : At K mg "_law_part_kind" s__law_part_kind) (D__law_free_in : At K mg "_law_free_in" s__law_free_in) (D_is_guest_of : At K mg "is_guest_of" s_is_guest_of) (D_sure_guest : At K mg "sure_guest" s_sure_guest) (D_is_lot_in : At K mg "is_lot_in" s_is_lot_in) (D_is_bad : At K mg "is_bad" s_is_bad) (D_kept_in : At K mg "kept_in" s_kept_in) (D_trees_of : At K mg "trees_of" s_trees_of) (D_barring_in : At K mg "barring_in" s_barring_in) (D__law_bars : At K mg "_law_bars" s__law_bars) (D__law_walk : At K mg "_law_walk" s__law_walk) (D__law_just : At K mg "_law_just" s__law_just) (D__law_all_of : At K mg "_law_all_of" s__law_all_of) (D__law_barred_by : At K mg "_law_barred_by" s__law_barred_by) (D__law_great_net : At K mg "_law_great_net" s__law_great_net) (D_is_web : At K mg "is_web" s_is_web) (D_bad_in : At K mg "bad_in" s_bad_in) (D_order_by : At K mg "order_by" s_order_by) (D_is_never : At K mg "is_never" s_is_never) (D_lot_grown : At K mg "lot_grown" s_lot_grown) (D_order_in_lot : At K mg "order_in_lot" s_order_in_lot) (D_sure_free : At K mg "sure_free" s_sure_free) (D_tupled : At K mg "tupled" s_tupled) (D__law_lists : At K mg "_law_lists" s__law_lists) (D__law_same : At K mg "_law_same" s__law_same) (D_sure_web : At K mg "sure_web" s_sure_web) (D_sure_lot : At K mg "sure_lot" s_sure_lot) (D_sure_places : At K mg "sure_places" s_sure_places) (D__law_one_of : At K mg "_law_one_of" s__law_one_of) (D_both_sure : At K mg "both_sure" s_both_sure) (D_never_without : At K mg "never_without" s_never_without) (D_rivals : At K mg "rivals" s_rivals) (D_can_be_without : At K mg "can_be_without" s_can_be_without) (D_order_for : At K mg "order_for" s_order_for) (D_why_not : At K mg "why_not" s_why_not) (D_spare_places : At K mg "spare_places" s_spare_places) (D_how_many_free : At K mg "how_many_free" s_how_many_free) (D_order_leaving : At K mg "order_leaving" s_order_leaving) (D_can_together : At K mg "can_together" s_can_together) (D_lot_sure : At K mg "lot_sure" s_lot_sure) (D_why_never : At K mg "why_never" s_why_never) (D__law_never_right : At K mg "_law_never_right" s__law_never_right) (D_lot_with : At K mg "lot_with" s_lot_with) (D_order_with : At K mg "order_with" s_order_with) (D__law_heard : At K mg "_law_heard" s__law_heard) (D__law_by_hand_right : At K mg "_law_by_hand_right" s__law_by_hand_right) (D__law_papers_right : At K mg "_law_papers_right" s__law_papers_right) (D__law_right : At K mg "_law_right" s__law_right) (D_law : DefAt K mg "law" s_law f fd) : FnOk P w K mg base (L2.CX P w) 14 f fd ["_law_script"] (spD C 1 (r_law (K := K))) := by
  obtain ⟨f_is_number, fd_is_number, D_is_number⟩ := D_is_number
  have c_is_number := cal_is_number (P := P) (w := w) (base := base) (C := C) T D_is_number 
  obtain ⟨f_is_long, fd_is_long, D_is_long⟩ := D_is_long
  have c_is_long := cal_is_long (P := P) (w := w) (base := base) (C := C) T D_is_long 
  obtain ⟨f_ascends, fd_ascends, D_ascends⟩ := D_ascends
  have c_ascends := cal_ascends (P := P) (w := w) (base := base) (C := C) T D_ascends 
  obtain ⟨f_set_of, fd_set_of, D_set_of⟩ := D_set_of
  have c_set_of := cal_set_of (P := P) (w := w) (base := base) (C := C) T D_set_of 
  obtain ⟨f_unwanted_in, fd_unwanted_in, D_unwanted_in⟩ := D_unwanted_in
  have c_unwanted_in := cal_unwanted_in (P := P) (w := w) (base := base) (C := C) T D_unwanted_in 
  obtain ⟨f_others_in, fd_others_in, D_others_in⟩ := D_others_in
  have c_others_in := cal_others_in (P := P) (w := w) (base := base) (C := C) T D_others_in 
  obtain ⟨f_beside_by, fd_beside_by, D_beside_by⟩ := D_beside_by
  have c_beside_by := cal_beside_by (P := P) (w := w) (base := base) (C := C) T D_beside_by 
  obtain ⟨f_part_from, fd_part_from, D_part_from⟩ := D_part_from
  have c_part_from := cal_part_from (P := P) (w := w) (base := base) (C := C) T D_part_from 
  obtain ⟨f_guests_in, fd_guests_in, D_guests_in⟩ := D_guests_in
  have c_guests_in := cal_guests_in (P := P) (w := w) (base := base) (C := C) T D_guests_in 
  obtain ⟨f_way_from, fd_way_from, D_way_from⟩ := D_way_from
  have c_way_from := cal_way_from (P := P) (w := w) (base := base) (C := C) T D_way_from 
  obtain ⟨f_met_by, fd_met_by, D_met_by⟩ := D_met_by
  have c_met_by := cal_met_by (P := P) (w := w) (base := base) (C := C) T D_met_by 
  obtain ⟨f_next_to, fd_next_to, D_next_to⟩ := D_next_to
  have c_next_to := cal_next_to (P := P) (w := w) (base := base) (C := C) T D_next_to 
  obtain ⟨f_seated_round, fd_seated_round, D_seated_round⟩ := D_seated_round
  have c_seated_round := cal_seated_round (P := P) (w := w) (base := base) (C := C) T D_seated_round 
  obtain ⟨f__law_box, fd__law_box, D__law_box⟩ := D__law_box
  have c__law_box := cal__law_box (P := P) (w := w) (base := base) (C := C) T D__law_box 
  obtain ⟨f__law_take, fd__law_take, D__law_take⟩ := D__law_take
  have c__law_take := cal__law_take (P := P) (w := w) (base := base) (C := C) T D__law_take 
  obtain ⟨f__law_cells, fd__law_cells, D__law_cells⟩ := D__law_cells
  have c__law_cells := cal__law_cells (P := P) (w := w) (base := base) (C := C) T D__law_cells 
  obtain ⟨f__law_unwanted, fd__law_unwanted, D__law_unwanted⟩ := D__law_unwanted
  have c__law_unwanted := cal__law_unwanted (P := P) (w := w) (base := base) (C := C) T D__law_unwanted 
  obtain ⟨f__law_seat, fd__law_seat, D__law_seat⟩ := D__law_seat
  have c__law_seat := cal__law_seat (P := P) (w := w) (base := base) (C := C) T D__law_seat 
  obtain ⟨f__law_lacking, fd__law_lacking, D__law_lacking⟩ := D__law_lacking
  have c__law_lacking := cal__law_lacking (P := P) (w := w) (base := base) (C := C) T D__law_lacking 
  obtain ⟨f__law_others, fd__law_others, D__law_others⟩ := D__law_others
  have c__law_others := cal__law_others (P := P) (w := w) (base := base) (C := C) T D__law_others 
  obtain ⟨f__law_parts, fd__law_parts, D__law_parts⟩ := D__law_parts
  have c__law_parts := cal__law_parts (P := P) (w := w) (base := base) (C := C) T D__law_parts 
  obtain ⟨f__law_in_part, fd__law_in_part, D__law_in_part⟩ := D__law_in_part
  have c__law_in_part := cal__law_in_part (P := P) (w := w) (base := base) (C := C) T D__law_in_part 
  obtain ⟨f__law_are_within, fd__law_are_within, D__law_are_within⟩ := D__law_are_within
  have c__law_are_within := cal__law_are_within (P := P) (w := w) (base := base) (C := C) T D__law_are_within 
  obtain ⟨f__law_is_walk, fd__law_is_walk, D__law_is_walk⟩ := D__law_is_walk
  have c__law_is_walk := cal__law_is_walk (P := P) (w := w) (base := base) (C := C) T D__law_is_walk 
  obtain ⟨f__law_is_heap, fd__law_is_heap, D__law_is_heap⟩ := D__law_is_heap
  have c__law_is_heap := cal__law_is_heap (P := P) (w := w) (base := base) (C := C) T D__law_is_heap 
  obtain ⟨f_is_from, fd_is_from, D_is_from⟩ := D_is_from
  have c_is_from := cal_is_from (P := P) (w := w) (base := base) (C := C) T D_is_from c_is_number
  obtain ⟨f_is_within, fd_is_within, D_is_within⟩ := D_is_within
  have c_is_within := cal_is_within (P := P) (w := w) (base := base) (C := C) T D_is_within c_is_number
  obtain ⟨f_parts_in, fd_parts_in, D_parts_in⟩ := D_parts_in
  have c_parts_in := cal_parts_in (P := P) (w := w) (base := base) (C := C) T D_parts_in c_beside_by c_part_from
  obtain ⟨f_round_of, fd_round_of, D_round_of⟩ := D_round_of
  have c_round_of := cal_round_of (P := P) (w := w) (base := base) (C := C) T D_round_of c_beside_by c_guests_in c_part_from c_way_from
  obtain ⟨f_spare_in, fd_spare_in, D_spare_in⟩ := D_spare_in
  have c_spare_in := cal_spare_in (P := P) (w := w) (base := base) (C := C) T D_spare_in c_met_by c_unwanted_in
  obtain ⟨f_is_tree_in, fd_is_tree_in, D_is_tree_in⟩ := D_is_tree_in
  have c_is_tree_in := cal_is_tree_in (P := P) (w := w) (base := base) (C := C) T D_is_tree_in c_guests_in
  obtain ⟨f_grown_from, fd_grown_from, D_grown_from⟩ := D_grown_from
  have c_grown_from := cal_grown_from (P := P) (w := w) (base := base) (C := C) T D_grown_from c_next_to
  obtain ⟨f__law_of, fd__law_of, D__law_of⟩ := D__law_of
  have c__law_of := cal__law_of (P := P) (w := w) (base := base) (C := C) T D__law_of c__law_take
  obtain ⟨f__law_pick, fd__law_pick, D__law_pick⟩ := D__law_pick
  have c__law_pick := cal__law_pick (P := P) (w := w) (base := base) (C := C) T D__law_pick c__law_take
  obtain ⟨f__law_run, fd__law_run, D__law_run⟩ := D__law_run
  have c__law_run := cal__law_run (P := P) (w := w) (base := base) (C := C) T D__law_run c__law_seat
  obtain ⟨f__law_part_kind, fd__law_part_kind, D__law_part_kind⟩ := D__law_part_kind
  have c__law_part_kind := cal__law_part_kind (P := P) (w := w) (base := base) (C := C) T D__law_part_kind c__law_in_part
  obtain ⟨f__law_free_in, fd__law_free_in, D__law_free_in⟩ := D__law_free_in
  have c__law_free_in := cal__law_free_in (P := P) (w := w) (base := base) (C := C) T D__law_free_in c__law_unwanted
  obtain ⟨f_is_guest_of, fd_is_guest_of, D_is_guest_of⟩ := D_is_guest_of
  have c_is_guest_of := cal_is_guest_of (P := P) (w := w) (base := base) (C := C) T D_is_guest_of c_is_long c_is_within
  obtain ⟨f_sure_guest, fd_sure_guest, D_sure_guest⟩ := D_sure_guest
  have c_sure_guest := cal_sure_guest (P := P) (w := w) (base := base) (C := C) T D_sure_guest c_is_number c_is_within
  obtain ⟨f_is_lot_in, fd_is_lot_in, D_is_lot_in⟩ := D_is_lot_in
  have c_is_lot_in := cal_is_lot_in (P := P) (w := w) (base := base) (C := C) T D_is_lot_in c_ascends c_is_within
  obtain ⟨f_is_bad, fd_is_bad, D_is_bad⟩ := D_is_bad
  have c_is_bad := cal_is_bad (P := P) (w := w) (base := base) (C := C) T D_is_bad c_guests_in c_is_tree_in
  obtain ⟨f_kept_in, fd_kept_in, D_kept_in⟩ := D_kept_in
  have c_kept_in := cal_kept_in (P := P) (w := w) (base := base) (C := C) T D_kept_in c_grown_from c_guests_in c_is_tree_in c_round_of c_seated_round
  obtain ⟨f_trees_of, fd_trees_of, D_trees_of⟩ := D_trees_of
  have c_trees_of := cal_trees_of (P := P) (w := w) (base := base) (C := C) T D_trees_of c_is_tree_in c_parts_in
  obtain ⟨f_barring_in, fd_barring_in, D_barring_in⟩ := D_barring_in
  have c_barring_in := cal_barring_in (P := P) (w := w) (base := base) (C := C) T D_barring_in c_is_tree_in c_met_by c_others_in c_parts_in c_spare_in
  obtain ⟨f__law_bars, fd__law_bars, D__law_bars⟩ := D__law_bars
  have c__law_bars := cal__law_bars (P := P) (w := w) (base := base) (C := C) T D__law_bars c__law_free_in c__law_others c__law_part_kind c__law_parts
  obtain ⟨f__law_walk, fd__law_walk, D__law_walk⟩ := D__law_walk
  have c__law_walk := cal__law_walk (P := P) (w := w) (base := base) (C := C) T D__law_walk c__law_pick
  obtain ⟨f__law_just, fd__law_just, D__law_just⟩ := D__law_just
  have c__law_just := cal__law_just (P := P) (w := w) (base := base) (C := C) T D__law_just c__law_is_walk c__law_lacking c__law_run
  obtain ⟨f__law_all_of, fd__law_all_of, D__law_all_of⟩ := D__law_all_of
  have c__law_all_of := cal__law_all_of (P := P) (w := w) (base := base) (C := C) T D__law_all_of c__law_are_within c__law_is_walk c__law_lacking c__law_run
  obtain ⟨f__law_barred_by, fd__law_barred_by, D__law_barred_by⟩ := D__law_barred_by
  have c__law_barred_by := cal__law_barred_by (P := P) (w := w) (base := base) (C := C) T D__law_barred_by c__law_free_in c__law_others c__law_part_kind c__law_parts
  obtain ⟨f__law_great_net, fd__law_great_net, D__law_great_net⟩ := D__law_great_net
  have c__law_great_net := cal__law_great_net (P := P) (w := w) (base := base) (C := C) T D__law_great_net c__law_of c__law_take
  obtain ⟨f_is_web, fd_is_web, D_is_web⟩ := D_is_web
  have c_is_web := cal_is_web (P := P) (w := w) (base := base) (C := C) T D_is_web c_is_from c_is_guest_of c_is_long
  obtain ⟨f_bad_in, fd_bad_in, D_bad_in⟩ := D_bad_in
  have c_bad_in := cal_bad_in (P := P) (w := w) (base := base) (C := C) T D_bad_in c_is_bad c_others_in c_parts_in c_spare_in
  obtain ⟨f_order_by, fd_order_by, D_order_by⟩ := D_order_by
  have c_order_by := cal_order_by (P := P) (w := w) (base := base) (C := C) T D_order_by c_kept_in c_others_in c_parts_in
  obtain ⟨f_is_never, fd_is_never, D_is_never⟩ := D_is_never
  have c_is_never := cal_is_never (P := P) (w := w) (base := base) (C := C) T D_is_never c_barring_in
  obtain ⟨f_lot_grown, fd_lot_grown, D_lot_grown⟩ := D_lot_grown
  have c_lot_grown := cal_lot_grown (P := P) (w := w) (base := base) (C := C) T D_lot_grown c_guests_in c_kept_in c_others_in c_parts_in c_set_of
  obtain ⟨f_order_in_lot, fd_order_in_lot, D_order_in_lot⟩ := D_order_in_lot
  have c_order_in_lot := cal_order_in_lot (P := P) (w := w) (base := base) (C := C) T D_order_in_lot c_order_by c_others_in c_spare_in c_trees_of
  obtain ⟨f_sure_free, fd_sure_free, D_sure_free⟩ := D_sure_free
  have c_sure_free := cal_sure_free (P := P) (w := w) (base := base) (C := C) T D_sure_free c_bad_in
  obtain ⟨f_tupled, fd_tupled, D_tupled⟩ := D_tupled
  have c_tupled := cal_tupled (P := P) (w := w) (base := base) (C := C) T D_tupled 
  obtain ⟨f__law_lists, fd__law_lists, D__law_lists⟩ := D__law_lists
  have c__law_lists := cal__law_lists (P := P) (w := w) (base := base) (C := C) T D__law_lists 
  obtain ⟨f__law_same, fd__law_same, D__law_same⟩ := D__law_same
  have c__law_same := cal__law_same (P := P) (w := w) (base := base) (C := C) T D__law_same 
  obtain ⟨f_sure_web, fd_sure_web, D_sure_web⟩ := D_sure_web
  have c_sure_web := cal_sure_web (P := P) (w := w) (base := base) (C := C) T D_sure_web c_is_web c_tupled
  obtain ⟨f_sure_lot, fd_sure_lot, D_sure_lot⟩ := D_sure_lot
  have c_sure_lot := cal_sure_lot (P := P) (w := w) (base := base) (C := C) T D_sure_lot c_is_lot_in c_tupled
  obtain ⟨f_sure_places, fd_sure_places, D_sure_places⟩ := D_sure_places
  have c_sure_places := cal_sure_places (P := P) (w := w) (base := base) (C := C) T D_sure_places c_ascends c_is_within c_tupled
  obtain ⟨f__law_one_of, fd__law_one_of, D__law_one_of⟩ := D__law_one_of
  have c__law_one_of := cal__law_one_of (P := P) (w := w) (base := base) (C := C) T D__law_one_of c__law_same
  obtain ⟨f_both_sure, fd_both_sure, D_both_sure⟩ := D_both_sure
  have c_both_sure := cal_both_sure (P := P) (w := w) (base := base) (C := C) T D_both_sure c_sure_lot c_sure_web
  obtain ⟨f_never_without, fd_never_without, D_never_without⟩ := D_never_without
  have c_never_without := cal_never_without (P := P) (w := w) (base := base) (C := C) T D_never_without c_is_never c_sure_web
  obtain ⟨f_rivals, fd_rivals, D_rivals⟩ := D_rivals
  have c_rivals := cal_rivals (P := P) (w := w) (base := base) (C := C) T D_rivals c_barring_in c_is_never c_set_of c_sure_guest c_sure_web
  obtain ⟨f_can_be_without, fd_can_be_without, D_can_be_without⟩ := D_can_be_without
  have c_can_be_without := cal_can_be_without (P := P) (w := w) (base := base) (C := C) T D_can_be_without c_bad_in c_both_sure
  obtain ⟨f_order_for, fd_order_for, D_order_for⟩ := D_order_for
  have c_order_for := cal_order_for (P := P) (w := w) (base := base) (C := C) T D_order_for c_both_sure c_order_in_lot c_sure_free
  obtain ⟨f_why_not, fd_why_not, D_why_not⟩ := D_why_not
  have c_why_not := cal_why_not (P := P) (w := w) (base := base) (C := C) T D_why_not c_bad_in c_both_sure
  obtain ⟨f_spare_places, fd_spare_places, D_spare_places⟩ := D_spare_places
  have c_spare_places := cal_spare_places (P := P) (w := w) (base := base) (C := C) T D_spare_places c_both_sure c_others_in c_spare_in c_sure_free c_trees_of
  obtain ⟨f_how_many_free, fd_how_many_free, D_how_many_free⟩ := D_how_many_free
  have c_how_many_free := cal_how_many_free (P := P) (w := w) (base := base) (C := C) T D_how_many_free c_both_sure c_sure_free
  obtain ⟨f_order_leaving, fd_order_leaving, D_order_leaving⟩ := D_order_leaving
  have c_order_leaving := cal_order_leaving (P := P) (w := w) (base := base) (C := C) T D_order_leaving c_both_sure c_order_by c_others_in c_spare_in c_sure_free c_sure_places c_trees_of
  obtain ⟨f_can_together, fd_can_together, D_can_together⟩ := D_can_together
  have c_can_together := cal_can_together (P := P) (w := w) (base := base) (C := C) T D_can_together c_barring_in c_both_sure
  obtain ⟨f_lot_sure, fd_lot_sure, D_lot_sure⟩ := D_lot_sure
  have c_lot_sure := cal_lot_sure (P := P) (w := w) (base := base) (C := C) T D_lot_sure c_barring_in c_both_sure c_lot_grown
  obtain ⟨f_why_never, fd_why_never, D_why_never⟩ := D_why_never
  have c_why_never := cal_why_never (P := P) (w := w) (base := base) (C := C) T D_why_never c_barring_in c_both_sure
  obtain ⟨f__law_never_right, fd__law_never_right, D__law_never_right⟩ := D__law_never_right
  have c__law_never_right := cal__law_never_right (P := P) (w := w) (base := base) (C := C) T D__law_never_right c__law_same c_never_without c_rivals
  obtain ⟨f_lot_with, fd_lot_with, D_lot_with⟩ := D_lot_with
  have c_lot_with := cal_lot_with (P := P) (w := w) (base := base) (C := C) T D_lot_with c_lot_sure
  obtain ⟨f_order_with, fd_order_with, D_order_with⟩ := D_order_with
  have c_order_with := cal_order_with (P := P) (w := w) (base := base) (C := C) T D_order_with c_lot_sure c_order_in_lot
  obtain ⟨f__law_heard, fd__law_heard, D__law_heard⟩ := D__law_heard
  have c__law_heard := cal__law_heard (P := P) (w := w) (base := base) (C := C) T hE hk D__law_heard c_order_for c_why_not c_order_with c_why_never
  obtain ⟨f__law_by_hand_right, fd__law_by_hand_right, D__law_by_hand_right⟩ := D__law_by_hand_right
  have c__law_by_hand_right := cal__law_by_hand_right (P := P) (w := w) (base := base) (C := C) T D__law_by_hand_right c__law_heard c__law_just c__law_run c__law_same c_can_be_without.cal c_can_together.cal c_how_many_free.cal c_order_leaving c_spare_places.cal
  obtain ⟨f__law_papers_right, fd__law_papers_right, D__law_papers_right⟩ := D__law_papers_right
  have c__law_papers_right := cal__law_papers_right (P := P) (w := w) (base := base) (C := C) T D__law_papers_right c__law_all_of c__law_barred_by c__law_bars c__law_heard c__law_just c__law_lists c__law_one_of c__law_same c_can_be_without c_can_together
  obtain ⟨f__law_right, fd__law_right, D__law_right⟩ := D__law_right
  have c__law_right := cal__law_right (P := P) (w := w) (base := base) (C := C) T D__law_right c__law_are_within c__law_bars c__law_free_in c__law_great_net c__law_is_heap c__law_lacking c__law_lists c__law_others c__law_papers_right c__law_part_kind c__law_parts c__law_run c__law_same c__law_take c__law_walk c_can_be_without.cal c_how_many_free c_lot_with c_spare_places
  exact cal_law T D_law c__law_box c__law_by_hand_right c__law_cells c__law_never_right c__law_right c__law_take
end
theorem facts {P : Program} {w : World} {K : PySem.W.Frag} {h : Heap} {mg : Str → Option Value} {f : Addr} (X : K.In h) (G : h.Ns mainGlobals mg) (hfa : mg ("law" : Str) = some (.ref f)) (c : He.SaysX fa fn [] [] ex w h K) :
    ∃ fd : FuncData, (∀ (s : Shared) (v : Value), BindsTo s fd ⟨[v], []⟩ [("_law_script", v)]) ∧ ∀ base : Heap, FnOk P w K mg base (L2.CX P w) 14 f fd ["_law_script"] (spD (He.ga K "CanNot") 1 (r_law (K := K))) := by
  have d : He.SaysD fa fn K := congrArg (fun z : He.AlT => z.1) c.t
  have g : ∀ i x, fa[i]? = some (He.Fa.glo x) → mg x = some (.ref (He.ga K x)) := fun i x e => He.glo_ok X G (d.fact i e)
  have fr : ∀ i x, fa[i]? = some (He.Fa.free x) → mg x = none := fun i x e => He.free_ok X G (d.fact i e)
  obtain ⟨x1, x2, x3, x4⟩ := He.exc_ok (x := "CanNot") (d.fact 103 (f := .exc "CanNot") rfl)
  obtain ⟨e1, m⟩ := He.ba c.more
  obtain ⟨e2, m⟩ := He.ba m
  obtain ⟨e3, m⟩ := He.ba m
  obtain ⟨e4, m⟩ := He.ba m
  obtain ⟨e5, m⟩ := He.ba m
  obtain ⟨e6, m⟩ := He.ba m
  obtain ⟨e7, e8⟩ := He.ba m
  have T : Txt K mg (He.ga K "CanNot") := ⟨fr 85 "abs" rfl, fr 86 "all" rfl, fr 87 "any" rfl, fr 88 "bool" rfl, fr 89 "dict" rfl, fr 90 "enumerate" rfl, fr 91 "int" rfl, fr 92 "isinstance" rfl, fr 93 "len" rfl, fr 94 "list" rfl, fr 95 "min" rfl, fr 96 "range" rfl, fr 97 "set" rfl, fr 98 "sorted" rfl, fr 99 "str" rfl, fr 100 "tuple" rfl, fr 101 "zip" rfl, fr 84 "ValueError" rfl, g 102 "CanNot" rfl, x1, x2, x3, x4, He.exm_ok (d.fact 104 (f := .exm "CanNot" "CanNot" true) rfl)⟩
  have E : ExcC K (He.ga K "CanNot") := ⟨He.eqO_ok e1, He.eqO_ok e2, x3, e3, He.eqO_ok e4, He.eqO_ok e5, of_decide_eq_true e6, of_decide_eq_true e7⟩
  have D_is_number : At K mg "is_number" s_is_number := by
    obtain ⟨fd, F⟩ := d.def_ 0 (d := d_is_number) rfl
    exact ⟨_, fd, F, g 0 "is_number" rfl⟩
  have D_is_long : At K mg "is_long" s_is_long := by
    obtain ⟨fd, F⟩ := d.def_ 3 (d := d_is_long) rfl
    exact ⟨_, fd, F, g 3 "is_long" rfl⟩
  have D_ascends : At K mg "ascends" s_ascends := by
    obtain ⟨fd, F⟩ := d.def_ 5 (d := d_ascends) rfl
    exact ⟨_, fd, F, g 5 "ascends" rfl⟩
  have D_set_of : At K mg "set_of" s_set_of := by
    obtain ⟨fd, F⟩ := d.def_ 6 (d := d_set_of) rfl
    exact ⟨_, fd, F, g 6 "set_of" rfl⟩
  have D_unwanted_in : At K mg "unwanted_in" s_unwanted_in := by
    obtain ⟨fd, F⟩ := d.def_ 11 (d := d_unwanted_in) rfl
    exact ⟨_, fd, F, g 11 "unwanted_in" rfl⟩
  have D_others_in : At K mg "others_in" s_others_in := by
    obtain ⟨fd, F⟩ := d.def_ 14 (d := d_others_in) rfl
    exact ⟨_, fd, F, g 14 "others_in" rfl⟩
  have D_beside_by : At K mg "beside_by" s_beside_by := by
    obtain ⟨fd, F⟩ := d.def_ 15 (d := d_beside_by) rfl
    exact ⟨_, fd, F, g 15 "beside_by" rfl⟩
  have D_part_from : At K mg "part_from" s_part_from := by
    obtain ⟨fd, F⟩ := d.def_ 16 (d := d_part_from) rfl
    exact ⟨_, fd, F, g 16 "part_from" rfl⟩
  have D_guests_in : At K mg "guests_in" s_guests_in := by
    obtain ⟨fd, F⟩ := d.def_ 18 (d := d_guests_in) rfl
    exact ⟨_, fd, F, g 18 "guests_in" rfl⟩
  have D_way_from : At K mg "way_from" s_way_from := by
    obtain ⟨fd, F⟩ := d.def_ 19 (d := d_way_from) rfl
    exact ⟨_, fd, F, g 19 "way_from" rfl⟩
  have D_met_by : At K mg "met_by" s_met_by := by
    obtain ⟨fd, F⟩ := d.def_ 22 (d := d_met_by) rfl
    exact ⟨_, fd, F, g 22 "met_by" rfl⟩
  have D_next_to : At K mg "next_to" s_next_to := by
    obtain ⟨fd, F⟩ := d.def_ 28 (d := d_next_to) rfl
    exact ⟨_, fd, F, g 28 "next_to" rfl⟩
  have D_seated_round : At K mg "seated_round" s_seated_round := by
    obtain ⟨fd, F⟩ := d.def_ 30 (d := d_seated_round) rfl
    exact ⟨_, fd, F, g 30 "seated_round" rfl⟩
  have D__law_box : At K mg "_law_box" s__law_box := by
    obtain ⟨fd, F⟩ := d.def_ 52 (d := d__law_box) rfl
    exact ⟨_, fd, F, g 52 "_law_box" rfl⟩
  have D__law_take : At K mg "_law_take" s__law_take := by
    obtain ⟨fd, F⟩ := d.def_ 53 (d := d__law_take) rfl
    exact ⟨_, fd, F, g 53 "_law_take" rfl⟩
  have D__law_cells : At K mg "_law_cells" s__law_cells := by
    obtain ⟨fd, F⟩ := d.def_ 54 (d := d__law_cells) rfl
    exact ⟨_, fd, F, g 54 "_law_cells" rfl⟩
  have D__law_unwanted : At K mg "_law_unwanted" s__law_unwanted := by
    obtain ⟨fd, F⟩ := d.def_ 59 (d := d__law_unwanted) rfl
    exact ⟨_, fd, F, g 59 "_law_unwanted" rfl⟩
  have D__law_seat : At K mg "_law_seat" s__law_seat := by
    obtain ⟨fd, F⟩ := d.def_ 60 (d := d__law_seat) rfl
    exact ⟨_, fd, F, g 60 "_law_seat" rfl⟩
  have D__law_lacking : At K mg "_law_lacking" s__law_lacking := by
    obtain ⟨fd, F⟩ := d.def_ 62 (d := d__law_lacking) rfl
    exact ⟨_, fd, F, g 62 "_law_lacking" rfl⟩
  have D__law_others : At K mg "_law_others" s__law_others := by
    obtain ⟨fd, F⟩ := d.def_ 63 (d := d__law_others) rfl
    exact ⟨_, fd, F, g 63 "_law_others" rfl⟩
  have D__law_parts : At K mg "_law_parts" s__law_parts := by
    obtain ⟨fd, F⟩ := d.def_ 64 (d := d__law_parts) rfl
    exact ⟨_, fd, F, g 64 "_law_parts" rfl⟩
  have D__law_in_part : At K mg "_law_in_part" s__law_in_part := by
    obtain ⟨fd, F⟩ := d.def_ 65 (d := d__law_in_part) rfl
    exact ⟨_, fd, F, g 65 "_law_in_part" rfl⟩
  have D__law_are_within : At K mg "_law_are_within" s__law_are_within := by
    obtain ⟨fd, F⟩ := d.def_ 70 (d := d__law_are_within) rfl
    exact ⟨_, fd, F, g 70 "_law_are_within" rfl⟩
  have D__law_is_walk : At K mg "_law_is_walk" s__law_is_walk := by
    obtain ⟨fd, F⟩ := d.def_ 71 (d := d__law_is_walk) rfl
    exact ⟨_, fd, F, g 71 "_law_is_walk" rfl⟩
  have D__law_is_heap : At K mg "_law_is_heap" s__law_is_heap := by
    obtain ⟨fd, F⟩ := d.def_ 77 (d := d__law_is_heap) rfl
    exact ⟨_, fd, F, g 77 "_law_is_heap" rfl⟩
  have D_is_from : At K mg "is_from" s_is_from := by
    obtain ⟨fd, F⟩ := d.def_ 1 (d := d_is_from) rfl
    exact ⟨_, fd, F, g 1 "is_from" rfl⟩
  have D_is_within : At K mg "is_within" s_is_within := by
    obtain ⟨fd, F⟩ := d.def_ 2 (d := d_is_within) rfl
    exact ⟨_, fd, F, g 2 "is_within" rfl⟩
  have D_parts_in : At K mg "parts_in" s_parts_in := by
    obtain ⟨fd, F⟩ := d.def_ 17 (d := d_parts_in) rfl
    exact ⟨_, fd, F, g 17 "parts_in" rfl⟩
  have D_round_of : At K mg "round_of" s_round_of := by
    obtain ⟨fd, F⟩ := d.def_ 20 (d := d_round_of) rfl
    exact ⟨_, fd, F, g 20 "round_of" rfl⟩
  have D_spare_in : At K mg "spare_in" s_spare_in := by
    obtain ⟨fd, F⟩ := d.def_ 23 (d := d_spare_in) rfl
    exact ⟨_, fd, F, g 23 "spare_in" rfl⟩
  have D_is_tree_in : At K mg "is_tree_in" s_is_tree_in := by
    obtain ⟨fd, F⟩ := d.def_ 24 (d := d_is_tree_in) rfl
    exact ⟨_, fd, F, g 24 "is_tree_in" rfl⟩
  have D_grown_from : At K mg "grown_from" s_grown_from := by
    obtain ⟨fd, F⟩ := d.def_ 29 (d := d_grown_from) rfl
    exact ⟨_, fd, F, g 29 "grown_from" rfl⟩
  have D__law_of : At K mg "_law_of" s__law_of := by
    obtain ⟨fd, F⟩ := d.def_ 55 (d := d__law_of) rfl
    exact ⟨_, fd, F, g 55 "_law_of" rfl⟩
  have D__law_pick : At K mg "_law_pick" s__law_pick := by
    obtain ⟨fd, F⟩ := d.def_ 56 (d := d__law_pick) rfl
    exact ⟨_, fd, F, g 56 "_law_pick" rfl⟩
  have D__law_run : At K mg "_law_run" s__law_run := by
    obtain ⟨fd, F⟩ := d.def_ 61 (d := d__law_run) rfl
    exact ⟨_, fd, F, g 61 "_law_run" rfl⟩
  have D__law_part_kind : At K mg "_law_part_kind" s__law_part_kind := by
    obtain ⟨fd, F⟩ := d.def_ 66 (d := d__law_part_kind) rfl
    exact ⟨_, fd, F, g 66 "_law_part_kind" rfl⟩
  have D__law_free_in : At K mg "_law_free_in" s__law_free_in := by
    obtain ⟨fd, F⟩ := d.def_ 67 (d := d__law_free_in) rfl
    exact ⟨_, fd, F, g 67 "_law_free_in" rfl⟩
  have D_is_guest_of : At K mg "is_guest_of" s_is_guest_of := by
    obtain ⟨fd, F⟩ := d.def_ 7 (d := d_is_guest_of) rfl
    exact ⟨_, fd, F, g 7 "is_guest_of" rfl⟩
  have D_sure_guest : At K mg "sure_guest" s_sure_guest := by
    obtain ⟨fd, F⟩ := d.def_ 10 (d := d_sure_guest) rfl
    exact ⟨_, fd, F, g 10 "sure_guest" rfl⟩
  have D_is_lot_in : At K mg "is_lot_in" s_is_lot_in := by
    obtain ⟨fd, F⟩ := d.def_ 12 (d := d_is_lot_in) rfl
    exact ⟨_, fd, F, g 12 "is_lot_in" rfl⟩
  have D_is_bad : At K mg "is_bad" s_is_bad := by
    obtain ⟨fd, F⟩ := d.def_ 25 (d := d_is_bad) rfl
    exact ⟨_, fd, F, g 25 "is_bad" rfl⟩
  have D_kept_in : At K mg "kept_in" s_kept_in := by
    obtain ⟨fd, F⟩ := d.def_ 31 (d := d_kept_in) rfl
    exact ⟨_, fd, F, g 31 "kept_in" rfl⟩
  have D_trees_of : At K mg "trees_of" s_trees_of := by
    obtain ⟨fd, F⟩ := d.def_ 33 (d := d_trees_of) rfl
    exact ⟨_, fd, F, g 33 "trees_of" rfl⟩
  have D_barring_in : At K mg "barring_in" s_barring_in := by
    obtain ⟨fd, F⟩ := d.def_ 42 (d := d_barring_in) rfl
    exact ⟨_, fd, F, g 42 "barring_in" rfl⟩
  have D__law_bars : At K mg "_law_bars" s__law_bars := by
    obtain ⟨fd, F⟩ := d.def_ 68 (d := d__law_bars) rfl
    exact ⟨_, fd, F, g 68 "_law_bars" rfl⟩
  have D__law_walk : At K mg "_law_walk" s__law_walk := by
    obtain ⟨fd, F⟩ := d.def_ 69 (d := d__law_walk) rfl
    exact ⟨_, fd, F, g 69 "_law_walk" rfl⟩
  have D__law_just : At K mg "_law_just" s__law_just := by
    obtain ⟨fd, F⟩ := d.def_ 72 (d := d__law_just) rfl
    exact ⟨_, fd, F, g 72 "_law_just" rfl⟩
  have D__law_all_of : At K mg "_law_all_of" s__law_all_of := by
    obtain ⟨fd, F⟩ := d.def_ 73 (d := d__law_all_of) rfl
    exact ⟨_, fd, F, g 73 "_law_all_of" rfl⟩
  have D__law_barred_by : At K mg "_law_barred_by" s__law_barred_by := by
    obtain ⟨fd, F⟩ := d.def_ 74 (d := d__law_barred_by) rfl
    exact ⟨_, fd, F, g 74 "_law_barred_by" rfl⟩
  have D__law_great_net : At K mg "_law_great_net" s__law_great_net := by
    obtain ⟨fd, F⟩ := d.def_ 76 (d := d__law_great_net) rfl
    exact ⟨_, fd, F, g 76 "_law_great_net" rfl⟩
  have D_is_web : At K mg "is_web" s_is_web := by
    obtain ⟨fd, F⟩ := d.def_ 8 (d := d_is_web) rfl
    exact ⟨_, fd, F, g 8 "is_web" rfl⟩
  have D_bad_in : At K mg "bad_in" s_bad_in := by
    obtain ⟨fd, F⟩ := d.def_ 26 (d := d_bad_in) rfl
    exact ⟨_, fd, F, g 26 "bad_in" rfl⟩
  have D_order_by : At K mg "order_by" s_order_by := by
    obtain ⟨fd, F⟩ := d.def_ 32 (d := d_order_by) rfl
    exact ⟨_, fd, F, g 32 "order_by" rfl⟩
  have D_is_never : At K mg "is_never" s_is_never := by
    obtain ⟨fd, F⟩ := d.def_ 44 (d := d_is_never) rfl
    exact ⟨_, fd, F, g 44 "is_never" rfl⟩
  have D_lot_grown : At K mg "lot_grown" s_lot_grown := by
    obtain ⟨fd, F⟩ := d.def_ 47 (d := d_lot_grown) rfl
    exact ⟨_, fd, F, g 47 "lot_grown" rfl⟩
  have D_order_in_lot : At K mg "order_in_lot" s_order_in_lot := by
    obtain ⟨fd, F⟩ := d.def_ 34 (d := d_order_in_lot) rfl
    exact ⟨_, fd, F, g 34 "order_in_lot" rfl⟩
  have D_sure_free : At K mg "sure_free" s_sure_free := by
    obtain ⟨fd, F⟩ := d.def_ 35 (d := d_sure_free) rfl
    exact ⟨_, fd, F, g 35 "sure_free" rfl⟩
  have D_tupled : At K mg "tupled" s_tupled := by
    obtain ⟨fd, F⟩ := d.def_ 4 (d := d_tupled) rfl
    exact ⟨_, fd, F, g 4 "tupled" rfl⟩
  have D__law_lists : At K mg "_law_lists" s__law_lists := by
    obtain ⟨fd, F⟩ := d.def_ 57 (d := d__law_lists) rfl
    exact ⟨_, fd, F, g 57 "_law_lists" rfl⟩
  have D__law_same : At K mg "_law_same" s__law_same := by
    obtain ⟨fd, F⟩ := d.def_ 58 (d := d__law_same) rfl
    exact ⟨_, fd, F, g 58 "_law_same" rfl⟩
  have D_sure_web : At K mg "sure_web" s_sure_web := by
    obtain ⟨fd, F⟩ := d.def_ 9 (d := d_sure_web) rfl
    exact ⟨_, fd, F, g 9 "sure_web" rfl⟩
  have D_sure_lot : At K mg "sure_lot" s_sure_lot := by
    obtain ⟨fd, F⟩ := d.def_ 13 (d := d_sure_lot) rfl
    exact ⟨_, fd, F, g 13 "sure_lot" rfl⟩
  have D_sure_places : At K mg "sure_places" s_sure_places := by
    obtain ⟨fd, F⟩ := d.def_ 40 (d := d_sure_places) rfl
    exact ⟨_, fd, F, g 40 "sure_places" rfl⟩
  have D__law_one_of : At K mg "_law_one_of" s__law_one_of := by
    obtain ⟨fd, F⟩ := d.def_ 75 (d := d__law_one_of) rfl
    exact ⟨_, fd, F, g 75 "_law_one_of" rfl⟩
  have D_both_sure : At K mg "both_sure" s_both_sure := by
    obtain ⟨fd, F⟩ := d.def_ 21 (d := d_both_sure) rfl
    exact ⟨_, fd, F, g 21 "both_sure" rfl⟩
  have D_never_without : At K mg "never_without" s_never_without := by
    obtain ⟨fd, F⟩ := d.def_ 45 (d := d_never_without) rfl
    exact ⟨_, fd, F, g 45 "never_without" rfl⟩
  have D_rivals : At K mg "rivals" s_rivals := by
    obtain ⟨fd, F⟩ := d.def_ 46 (d := d_rivals) rfl
    exact ⟨_, fd, F, g 46 "rivals" rfl⟩
  have D_can_be_without : At K mg "can_be_without" s_can_be_without := by
    obtain ⟨fd, F⟩ := d.def_ 27 (d := d_can_be_without) rfl
    exact ⟨_, fd, F, g 27 "can_be_without" rfl⟩
  have D_order_for : At K mg "order_for" s_order_for := by
    obtain ⟨fd, F⟩ := d.def_ 36 (d := d_order_for) rfl
    exact ⟨_, fd, F, g 36 "order_for" rfl⟩
  have D_why_not : At K mg "why_not" s_why_not := by
    obtain ⟨fd, F⟩ := d.def_ 37 (d := d_why_not) rfl
    exact ⟨_, fd, F, g 37 "why_not" rfl⟩
  have D_spare_places : At K mg "spare_places" s_spare_places := by
    obtain ⟨fd, F⟩ := d.def_ 38 (d := d_spare_places) rfl
    exact ⟨_, fd, F, g 38 "spare_places" rfl⟩
  have D_how_many_free : At K mg "how_many_free" s_how_many_free := by
    obtain ⟨fd, F⟩ := d.def_ 39 (d := d_how_many_free) rfl
    exact ⟨_, fd, F, g 39 "how_many_free" rfl⟩
  have D_order_leaving : At K mg "order_leaving" s_order_leaving := by
    obtain ⟨fd, F⟩ := d.def_ 41 (d := d_order_leaving) rfl
    exact ⟨_, fd, F, g 41 "order_leaving" rfl⟩
  have D_can_together : At K mg "can_together" s_can_together := by
    obtain ⟨fd, F⟩ := d.def_ 43 (d := d_can_together) rfl
    exact ⟨_, fd, F, g 43 "can_together" rfl⟩
  have D_lot_sure : At K mg "lot_sure" s_lot_sure := by
    obtain ⟨fd, F⟩ := d.def_ 48 (d := d_lot_sure) rfl
    exact ⟨_, fd, F, g 48 "lot_sure" rfl⟩
  have D_why_never : At K mg "why_never" s_why_never := by
    obtain ⟨fd, F⟩ := d.def_ 51 (d := d_why_never) rfl
    exact ⟨_, fd, F, g 51 "why_never" rfl⟩
  have D__law_never_right : At K mg "_law_never_right" s__law_never_right := by
    obtain ⟨fd, F⟩ := d.def_ 82 (d := d__law_never_right) rfl
    exact ⟨_, fd, F, g 82 "_law_never_right" rfl⟩
  have D_lot_with : At K mg "lot_with" s_lot_with := by
    obtain ⟨fd, F⟩ := d.def_ 49 (d := d_lot_with) rfl
    exact ⟨_, fd, F, g 49 "lot_with" rfl⟩
  have D_order_with : At K mg "order_with" s_order_with := by
    obtain ⟨fd, F⟩ := d.def_ 50 (d := d_order_with) rfl
    exact ⟨_, fd, F, g 50 "order_with" rfl⟩
  have D__law_heard : At K mg "_law_heard" s__law_heard := by
    obtain ⟨fd, F⟩ := d.def_ 78 (d := d__law_heard) rfl
    exact ⟨_, fd, F, g 78 "_law_heard" rfl⟩
  have D__law_by_hand_right : At K mg "_law_by_hand_right" s__law_by_hand_right := by
    obtain ⟨fd, F⟩ := d.def_ 79 (d := d__law_by_hand_right) rfl
    exact ⟨_, fd, F, g 79 "_law_by_hand_right" rfl⟩
  have D__law_papers_right : At K mg "_law_papers_right" s__law_papers_right := by
    obtain ⟨fd, F⟩ := d.def_ 80 (d := d__law_papers_right) rfl
    exact ⟨_, fd, F, g 80 "_law_papers_right" rfl⟩
  have D__law_right : At K mg "_law_right" s__law_right := by
    obtain ⟨fd, F⟩ := d.def_ 81 (d := d__law_right) rfl
    exact ⟨_, fd, F, g 81 "_law_right" rfl⟩
  obtain ⟨fd, F⟩ := d.def_ 83 (d := d_law) rfl
  have e := hfa.symm.trans (g 83 "law" rfl)
  cases e
  have b := FunD.bindsA (ps := ["_law_script"]) F fun _ _ _ _ _ _ us hl => match us, hl with | [_], _ => rfl
  exact ⟨fd, fun s v => b s [v] rfl, fun base => chain T E (of_decide_eq_true e8) D_is_number D_is_long D_ascends D_set_of D_unwanted_in D_others_in D_beside_by D_part_from D_guests_in D_way_from D_met_by D_next_to D_seated_round D__law_box D__law_take D__law_cells D__law_unwanted D__law_seat D__law_lacking D__law_others D__law_parts D__law_in_part D__law_are_within D__law_is_walk D__law_is_heap D_is_from D_is_within D_parts_in D_round_of D_spare_in D_is_tree_in D_grown_from D__law_of D__law_pick D__law_run D__law_part_kind D__law_free_in D_is_guest_of D_sure_guest D_is_lot_in D_is_bad D_kept_in D_trees_of D_barring_in D__law_bars D__law_walk D__law_just D__law_all_of D__law_barred_by D__law_great_net D_is_web D_bad_in D_order_by D_is_never D_lot_grown D_order_in_lot D_sure_free D_tupled D__law_lists D__law_same D_sure_web D_sure_lot D_sure_places D__law_one_of D_both_sure D_never_without D_rivals D_can_be_without D_order_for D_why_not D_spare_places D_how_many_free D_order_leaving D_can_together D_lot_sure D_why_never D__law_never_right D_lot_with D_order_with D__law_heard D__law_by_hand_right D__law_papers_right D__law_right ⟨F, hfa⟩⟩
end K17
open PySem PySem.W PySem.Calls PyProof.Rows
theorem PySem.Challenge.cw_leftwithout_k17_whole_great_webs_by_pape_holds : PySem.Challenge.rw_leftwithout_k17_whole_great_webs_by_pape.Holds := by
  w_on; o_law
  refine HandSHeadRun.head_any (r := K17.R) (q := view K17.R.prog [93]) (H := K17.hk) (ob := K17.ob) (M := 6000) (loose := K17.loose) (d := HandSHeadRun.topDef K17.R.prog 93) (kwd := []) K17.ob_eq
    (by kernel_rfl) (fun s => by kernel_rfl) K17.run (by kernel_rfl) (by kernel_rfl) (by kernel_rfl) (by rfl) (by first | assumption | decide +kernel) (by decide +kernel) ⟨rfl, rfl, rfl, rfl, rfl, by decide +kernel⟩ ?hw ?hc
  case hw => w_witness2
  case hc =>
    refine Att.attach_call (l := PySem.Challenge.rw_leftwithout_k17_whole_great_webs_by_pape) (n := 63) rfl (by kernel_rfl) fun w s₀ s₁ mg mb fa o pm cd doc a vs ns G Y ho hd hcd hmg hobj hints hlen hg => ?_
    obtain ⟨K, KX, c⟩ := Y
    have hm : mg ("law" : PySem.Str) = some (.ref fa) := by
      have e : (HandSHeadRun.topDef K17.R.prog 93).name = ("law" : PySem.Str) := by kernel_rfl
      rw [← e]
      exact hmg
    obtain ⟨fd, hb, hF⟩ := K17.facts (P := (PySem.Challenge.rw_leftwithout_k17_whole_great_webs_by_pape).prog) (w := w) KX G.T.g hm c
    refine L2.law_call KX G.T.g G.T.b G.T.builtins G.T.nolimit hg hobj hints (Nat.le_trans hlen (by decide)) (k := 14) ⟨rfl, by decide, by decide⟩ (fun base _ _ => hF base) hb (fun H _ hS => ?_) fun H e s' z => ?_
    · refine ⟨H, [.scr K ns], some (.bl true), L2.Same.refl H, .cons (.scr hS) .nil, rfl, ⟨ns, hlen, rfl, rfl⟩, fun d e v G' H' _ w => ?_, fun e => nomatch e⟩
      cases e
      cases w
      rfl
    · obtain ⟨_, _, _, _, _, _, _, _, _, _, _, _, z⟩ := z
      exact z
end
