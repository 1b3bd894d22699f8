import PyProof.Rows.All
import Wide.All
import OpenK.AllK
import Wide.FinOn
import HandS.ForMost
import HandS.Defaults
import HandS.Exc
import HandS.Head0
import HandS.Head1
import HandS.Head2
import HandS.HeadEnd
import HandS.HeadHook1
import HandS.HeadHook2
import HandS.HeadHook3
import HandS.HeadHook4
import HandS.HeadWalk
import HandS.Conv
import HandS.Codes
import HandS.IsInst
import HandS.Deep
import HandS.TupAny
import HandS.Strs
import HandS.SetFor
import HandS.Walk
import HandS.Zip
import HandS.Style
import HandS.SortInts
import HandS.Lambda
import HandS.SetBool
import HandS.TupSets
import KE.SortKeyHeap
import KE.GoesEnum
import KE.KDictPairs
import HandS.SortKw
import PySem.Challenge.RW_offerstands_k48_whole_loans_pressed_in
set_option Elab.async false
set_option linter.all false
set_option maxRecDepth 100000
set_option maxHeartbeats 0
/-! HD1: what the top leaves, by names; the kernel run. -/
namespace Ost
open PySem PySem.Spec PyProof.Rows L2
/-- the i-th statement of the top -/
def topS (i : Nat) : Stmt := PySem.Challenge.pw_offerstands_k48_whole_loans_pressed_in.main.body.getD i (.Pass ⟨0, 0, 0, 0⟩)
abbrev s__law_deck : Stmt := topS 82
abbrev s_same_offers : Stmt := topS 16
abbrev s_is_whole : Stmt := topS 11
abbrev s_is_set : Stmt := topS 12
abbrev s_side_check_set : Stmt := topS 23
abbrev s_side_check_standing : Stmt := topS 24
abbrev s_all_sets : Stmt := topS 13
abbrev s_subsets_of : Stmt := topS 14
abbrev s_agreed_by : Stmt := topS 30
abbrev s_together : Stmt := topS 15
abbrev s_side_set_with : Stmt := topS 28
abbrev s_wished_beside : Stmt := topS 31
abbrev s_side_settled : Stmt := topS 32
abbrev s_settled_among : Stmt := topS 33
abbrev s_settled_sets : Stmt := topS 36
abbrev s__law_draw : Stmt := topS 83
abbrev s__law_orders : Stmt := topS 84
abbrev s_chooser_is_part : Stmt := topS 20
abbrev s_is_list : Stmt := topS 62
abbrev s_list_first : Stmt := topS 63
abbrev s_firsts : Stmt := topS 64
abbrev s_by_lists : Stmt := topS 65
abbrev s_first_shrinking : Stmt := topS 79
abbrev s_does_shrink : Stmt := topS 80
abbrev s_rounds_of : Stmt := topS 76
abbrev s_best_settled : Stmt := topS 77
abbrev s_is_agreed : Stmt := topS 34
abbrev s_side_is_part : Stmt := topS 25
abbrev s_side_check_part : Stmt := topS 26
abbrev s_press_check : Stmt := topS 38
abbrev s_press_behind : Stmt := topS 40
abbrev s_press_moves : Stmt := topS 41
abbrev s_first_chain : Stmt := topS 46
abbrev s_press_in_order : Stmt := topS 39
abbrev s_chain_settled_ends : Stmt := topS 47
abbrev s_press_graph : Stmt := topS 42
abbrev s_chain_ends : Stmt := topS 48
abbrev s_side_is_offer : Stmt := topS 27
abbrev s_pressed_all : Stmt := topS 43
abbrev s_parts_behind : Stmt := topS 44
abbrev s_ring_ranks : Stmt := topS 67
abbrev s_ring_walk : Stmt := topS 70
abbrev s_judge_ends : Stmt := topS 71
abbrev s_longest_chain : Stmt := topS 68
abbrev s_judge_chain : Stmt := topS 49
abbrev s_chain_end_of : Stmt := topS 50
abbrev s_chain_holds : Stmt := topS 53
abbrev s_does_go_round : Stmt := topS 69
abbrev s_chain_is_part : Stmt := topS 51
abbrev s_ring_is_rank : Stmt := topS 72
abbrev s_ring_ranks_hold : Stmt := topS 73
abbrev s_ends_hold : Stmt := topS 74
abbrev s_is_settled : Stmt := topS 35
abbrev s__law_part_right : Stmt := topS 85
abbrev s_change_check_settled : Stmt := topS 55
abbrev s_change_outcomes : Stmt := topS 57
abbrev s_side_set_without : Stmt := topS 29
abbrev s_without_offer : Stmt := topS 59
abbrev s_change_check_new : Stmt := topS 56
abbrev s_with_offer : Stmt := topS 58
abbrev s_is_touched : Stmt := topS 60
abbrev s__law_change_right : Stmt := topS 86
abbrev s_law : Stmt := topS 87
abbrev s_ch_init : Stmt := inClass (topS 21) 0
abbrev s_ch_len : Stmt := inClass (topS 21) 1
def d__law_deck : He.DefD := ⟨("_law_deck", none), "_law_deck", "_law_deck", defArgs s__law_deck, defBody s__law_deck, defScope s__law_deck, [], []⟩
def d_same_offers : He.DefD := ⟨("same_offers", none), "same_offers", "same_offers", defArgs s_same_offers, defBody s_same_offers, defScope s_same_offers, [], []⟩
def d_is_whole : He.DefD := ⟨("is_whole", none), "is_whole", "is_whole", defArgs s_is_whole, defBody s_is_whole, defScope s_is_whole, [], []⟩
def d_is_set : He.DefD := ⟨("is_set", none), "is_set", "is_set", defArgs s_is_set, defBody s_is_set, defScope s_is_set, [], []⟩
def d_side_check_set : He.DefD := ⟨("side_check_set", none), "side_check_set", "side_check_set", defArgs s_side_check_set, defBody s_side_check_set, defScope s_side_check_set, [], []⟩
def d_side_check_standing : He.DefD := ⟨("side_check_standing", none), "side_check_standing", "side_check_standing", defArgs s_side_check_standing, defBody s_side_check_standing, defScope s_side_check_standing, [], []⟩
def d_all_sets : He.DefD := ⟨("all_sets", none), "all_sets", "all_sets", defArgs s_all_sets, defBody s_all_sets, defScope s_all_sets, [], []⟩
def d_subsets_of : He.DefD := ⟨("subsets_of", none), "subsets_of", "subsets_of", defArgs s_subsets_of, defBody s_subsets_of, defScope s_subsets_of, [], []⟩
def d_agreed_by : He.DefD := ⟨("agreed_by", none), "agreed_by", "agreed_by", defArgs s_agreed_by, defBody s_agreed_by, defScope s_agreed_by, [], []⟩
def d_together : He.DefD := ⟨("together", none), "together", "together", defArgs s_together, defBody s_together, defScope s_together, [], []⟩
def d_side_set_with : He.DefD := ⟨("side_set_with", none), "side_set_with", "side_set_with", defArgs s_side_set_with, defBody s_side_set_with, defScope s_side_set_with, [], []⟩
def d_wished_beside : He.DefD := ⟨("wished_beside", none), "wished_beside", "wished_beside", defArgs s_wished_beside, defBody s_wished_beside, defScope s_wished_beside, [], []⟩
def d_side_settled : He.DefD := ⟨("side_settled", none), "side_settled", "side_settled", defArgs s_side_settled, defBody s_side_settled, defScope s_side_settled, [], []⟩
def d_settled_among : He.DefD := ⟨("settled_among", none), "settled_among", "settled_among", defArgs s_settled_among, defBody s_settled_among, defScope s_settled_among, [], []⟩
def d_settled_sets : He.DefD := ⟨("settled_sets", none), "settled_sets", "settled_sets", defArgs s_settled_sets, defBody s_settled_sets, defScope s_settled_sets, [], []⟩
def d__law_draw : He.DefD := ⟨("_law_draw", none), "_law_draw", "_law_draw", defArgs s__law_draw, defBody s__law_draw, defScope s__law_draw, [], []⟩
def d__law_orders : He.DefD := ⟨("_law_orders", none), "_law_orders", "_law_orders", defArgs s__law_orders, defBody s__law_orders, defScope s__law_orders, [], []⟩
def d_chooser_is_part : He.DefD := ⟨("chooser_is_part", none), "chooser_is_part", "chooser_is_part", defArgs s_chooser_is_part, defBody s_chooser_is_part, defScope s_chooser_is_part, [], []⟩
def d_is_list : He.DefD := ⟨("is_list", none), "is_list", "is_list", defArgs s_is_list, defBody s_is_list, defScope s_is_list, [], []⟩
def d_list_first : He.DefD := ⟨("list_first", none), "list_first", "list_first", defArgs s_list_first, defBody s_list_first, defScope s_list_first, [], []⟩
def d_firsts : He.DefD := ⟨("firsts", none), "firsts", "firsts", defArgs s_firsts, defBody s_firsts, defScope s_firsts, [], []⟩
def d_by_lists : He.DefD := ⟨("by_lists", none), "by_lists", "by_lists", defArgs s_by_lists, defBody s_by_lists, defScope s_by_lists, [], []⟩
def d_first_shrinking : He.DefD := ⟨("first_shrinking", none), "first_shrinking", "first_shrinking", defArgs s_first_shrinking, defBody s_first_shrinking, defScope s_first_shrinking, [], []⟩
def d_does_shrink : He.DefD := ⟨("does_shrink", none), "does_shrink", "does_shrink", defArgs s_does_shrink, defBody s_does_shrink, defScope s_does_shrink, [], []⟩
def d_rounds_of : He.DefD := ⟨("rounds_of", none), "rounds_of", "rounds_of", defArgs s_rounds_of, defBody s_rounds_of, defScope s_rounds_of, [], []⟩
def d_best_settled : He.DefD := ⟨("best_settled", none), "best_settled", "best_settled", defArgs s_best_settled, defBody s_best_settled, defScope s_best_settled, [], []⟩
def d_is_agreed : He.DefD := ⟨("is_agreed", none), "is_agreed", "is_agreed", defArgs s_is_agreed, defBody s_is_agreed, defScope s_is_agreed, [], []⟩
def d_side_is_part : He.DefD := ⟨("side_is_part", none), "side_is_part", "side_is_part", defArgs s_side_is_part, defBody s_side_is_part, defScope s_side_is_part, [], []⟩
def d_side_check_part : He.DefD := ⟨("side_check_part", none), "side_check_part", "side_check_part", defArgs s_side_check_part, defBody s_side_check_part, defScope s_side_check_part, [], []⟩
def d_press_check : He.DefD := ⟨("press_check", none), "press_check", "press_check", defArgs s_press_check, defBody s_press_check, defScope s_press_check, [], []⟩
def d_press_behind : He.DefD := ⟨("press_behind", none), "press_behind", "press_behind", defArgs s_press_behind, defBody s_press_behind, defScope s_press_behind, [], []⟩
def d_press_moves : He.DefD := ⟨("press_moves", none), "press_moves", "press_moves", defArgs s_press_moves, defBody s_press_moves, defScope s_press_moves, [], []⟩
def d_first_chain : He.DefD := ⟨("first_chain", none), "first_chain", "first_chain", defArgs s_first_chain, defBody s_first_chain, defScope s_first_chain, [], []⟩
def d_press_in_order : He.DefD := ⟨("press_in_order", none), "press_in_order", "press_in_order", defArgs s_press_in_order, defBody s_press_in_order, defScope s_press_in_order, [], []⟩
def d_chain_settled_ends : He.DefD := ⟨("chain_settled_ends", none), "chain_settled_ends", "chain_settled_ends", defArgs s_chain_settled_ends, defBody s_chain_settled_ends, defScope s_chain_settled_ends, [], []⟩
def d_press_graph : He.DefD := ⟨("press_graph", none), "press_graph", "press_graph", defArgs s_press_graph, defBody s_press_graph, defScope s_press_graph, [], []⟩
def d_chain_ends : He.DefD := ⟨("chain_ends", none), "chain_ends", "chain_ends", defArgs s_chain_ends, defBody s_chain_ends, defScope s_chain_ends, [], []⟩
def d_side_is_offer : He.DefD := ⟨("side_is_offer", none), "side_is_offer", "side_is_offer", defArgs s_side_is_offer, defBody s_side_is_offer, defScope s_side_is_offer, [], []⟩
def d_pressed_all : He.DefD := ⟨("pressed_all", none), "pressed_all", "pressed_all", defArgs s_pressed_all, defBody s_pressed_all, defScope s_pressed_all, [], []⟩
def d_parts_behind : He.DefD := ⟨("parts_behind", none), "parts_behind", "parts_behind", defArgs s_parts_behind, defBody s_parts_behind, defScope s_parts_behind, [], []⟩
def d_ring_ranks : He.DefD := ⟨("ring_ranks", none), "ring_ranks", "ring_ranks", defArgs s_ring_ranks, defBody s_ring_ranks, defScope s_ring_ranks, [], []⟩
def d_ring_walk : He.DefD := ⟨("ring_walk", none), "ring_walk", "ring_walk", defArgs s_ring_walk, defBody s_ring_walk, defScope s_ring_walk, [], []⟩
def d_judge_ends : He.DefD := ⟨("judge_ends", none), "judge_ends", "judge_ends", defArgs s_judge_ends, defBody s_judge_ends, defScope s_judge_ends, [], []⟩
def d_longest_chain : He.DefD := ⟨("longest_chain", none), "longest_chain", "longest_chain", defArgs s_longest_chain, defBody s_longest_chain, defScope s_longest_chain, [], []⟩
def d_judge_chain : He.DefD := ⟨("judge_chain", none), "judge_chain", "judge_chain", defArgs s_judge_chain, defBody s_judge_chain, defScope s_judge_chain, [], []⟩
def d_chain_end_of : He.DefD := ⟨("chain_end_of", none), "chain_end_of", "chain_end_of", defArgs s_chain_end_of, defBody s_chain_end_of, defScope s_chain_end_of, [], []⟩
def d_chain_holds : He.DefD := ⟨("chain_holds", none), "chain_holds", "chain_holds", defArgs s_chain_holds, defBody s_chain_holds, defScope s_chain_holds, [], []⟩
def d_does_go_round : He.DefD := ⟨("does_go_round", none), "does_go_round", "does_go_round", defArgs s_does_go_round, defBody s_does_go_round, defScope s_does_go_round, [], []⟩
def d_chain_is_part : He.DefD := ⟨("chain_is_part", none), "chain_is_part", "chain_is_part", defArgs s_chain_is_part, defBody s_chain_is_part, defScope s_chain_is_part, [], []⟩
def d_ring_is_rank : He.DefD := ⟨("ring_is_rank", none), "ring_is_rank", "ring_is_rank", defArgs s_ring_is_rank, defBody s_ring_is_rank, defScope s_ring_is_rank, [], []⟩
def d_ring_ranks_hold : He.DefD := ⟨("ring_ranks_hold", none), "ring_ranks_hold", "ring_ranks_hold", defArgs s_ring_ranks_hold, defBody s_ring_ranks_hold, defScope s_ring_ranks_hold, [], []⟩
def d_ends_hold : He.DefD := ⟨("ends_hold", none), "ends_hold", "ends_hold", defArgs s_ends_hold, defBody s_ends_hold, defScope s_ends_hold, [], []⟩
def d_is_settled : He.DefD := ⟨("is_settled", none), "is_settled", "is_settled", defArgs s_is_settled, defBody s_is_settled, defScope s_is_settled, [], []⟩
def d__law_part_right : He.DefD := ⟨("_law_part_right", none), "_law_part_right", "_law_part_right", defArgs s__law_part_right, defBody s__law_part_right, defScope s__law_part_right, [], []⟩
def d_change_check_settled : He.DefD := ⟨("change_check_settled", none), "change_check_settled", "change_check_settled", defArgs s_change_check_settled, defBody s_change_check_settled, defScope s_change_check_settled, [], []⟩
def d_change_outcomes : He.DefD := ⟨("change_outcomes", none), "change_outcomes", "change_outcomes", defArgs s_change_outcomes, defBody s_change_outcomes, defScope s_change_outcomes, [], []⟩
def d_side_set_without : He.DefD := ⟨("side_set_without", none), "side_set_without", "side_set_without", defArgs s_side_set_without, defBody s_side_set_without, defScope s_side_set_without, [], []⟩
def d_without_offer : He.DefD := ⟨("without_offer", none), "without_offer", "without_offer", defArgs s_without_offer, defBody s_without_offer, defScope s_without_offer, [], []⟩
def d_change_check_new : He.DefD := ⟨("change_check_new", none), "change_check_new", "change_check_new", defArgs s_change_check_new, defBody s_change_check_new, defScope s_change_check_new, [], []⟩
def d_with_offer : He.DefD := ⟨("with_offer", none), "with_offer", "with_offer", defArgs s_with_offer, defBody s_with_offer, defScope s_with_offer, [], []⟩
def d_is_touched : He.DefD := ⟨("is_touched", none), "is_touched", "is_touched", defArgs s_is_touched, defBody s_is_touched, defScope s_is_touched, [], []⟩
def d__law_change_right : He.DefD := ⟨("_law_change_right", none), "_law_change_right", "_law_change_right", defArgs s__law_change_right, defBody s__law_change_right, defScope s__law_change_right, [], []⟩
def d_law : He.DefD := ⟨("law", none), "law", "law", defArgs s_law, defBody s_law, defScope s_law, [], []⟩
def d_ch_init : He.DefD := ⟨("Chooser", some "__init__"), "__init__", "Chooser.__init__", defArgs s_ch_init, defBody s_ch_init, defScope s_ch_init, [], []⟩
def d_ch_len : He.DefD := ⟨("Chooser", some "__len__"), "__len__", "Chooser.__len__", defArgs s_ch_len, defBody s_ch_len, defScope s_ch_len, [], []⟩
def fnL : List He.DefD := [d__law_deck, d_same_offers, d_is_whole, d_is_set, d_side_check_set, d_side_check_standing, d_all_sets, d_subsets_of, d_agreed_by, d_together, d_side_set_with, d_wished_beside, d_side_settled, d_settled_among, d_settled_sets, d__law_draw, d__law_orders, d_chooser_is_part, d_is_list, d_list_first, d_firsts, d_by_lists, d_first_shrinking, d_does_shrink, d_rounds_of, d_best_settled, d_is_agreed, d_side_is_part, d_side_check_part, d_press_check, d_press_behind, d_press_moves, d_first_chain, d_press_in_order, d_chain_settled_ends, d_press_graph, d_chain_ends, d_side_is_offer, d_pressed_all, d_parts_behind, d_ring_ranks, d_ring_walk, d_judge_ends, d_longest_chain, d_judge_chain, d_chain_end_of, d_chain_holds, d_does_go_round, d_chain_is_part, d_ring_is_rank, d_ring_ranks_hold, d_ends_hold, d_is_settled, d__law_part_right, d_change_check_settled, d_change_outcomes, d_side_set_without, d_without_offer, d_change_check_new, d_with_offer, d_is_touched, d__law_change_right, d_law, d_ch_init, d_ch_len]
def faL : List He.Fa := [.glo "_law_deck", .glo "same_offers", .glo "is_whole", .glo "is_set", .glo "side_check_set", .glo "side_check_standing", .glo "all_sets", .glo "subsets_of", .glo "agreed_by", .glo "together", .glo "side_set_with", .glo "wished_beside", .glo "side_settled", .glo "settled_among", .glo "settled_sets", .glo "_law_draw", .glo "_law_orders", .glo "chooser_is_part", .glo "is_list", .glo "list_first", .glo "firsts", .glo "by_lists", .glo "first_shrinking", .glo "does_shrink", .glo "rounds_of", .glo "best_settled", .glo "is_agreed", .glo "side_is_part", .glo "side_check_part", .glo "press_check", .glo "press_behind", .glo "press_moves", .glo "first_chain", .glo "press_in_order", .glo "chain_settled_ends", .glo "press_graph", .glo "chain_ends", .glo "side_is_offer", .glo "pressed_all", .glo "parts_behind", .glo "ring_ranks", .glo "ring_walk", .glo "judge_ends", .glo "longest_chain", .glo "judge_chain", .glo "chain_end_of", .glo "chain_holds", .glo "does_go_round", .glo "chain_is_part", .glo "ring_is_rank", .glo "ring_ranks_hold", .glo "ends_hold", .glo "is_settled", .glo "_law_part_right", .glo "change_check_settled", .glo "change_outcomes", .glo "side_set_without", .glo "without_offer", .glo "change_check_new", .glo "with_offer", .glo "is_touched", .glo "_law_change_right", .glo "law", .glo "Chooser", .free "isinstance", .free "int", .free "bool", .free "tuple", .free "len", .free "range", .free "sorted", .free "set", .free "all", .free "enumerate", .free "list", .free "zip", .free "dict", .free "max", .int "CHOOSER_MOST" 6, .cls "Chooser", .noat "Chooser" "offers", .noat "Chooser" "picks", .noat "Chooser" "table", .noat "Chooser" "places", .meth "Chooser" "__len__", .mkr "Chooser"]
def tfL : List He.Defn := [("press_in_order", none)]
def topNames0 : List PySem.Str := ["OfferError", "OtherOffers", "BadText", "BadChooser", "BadSet", "BadList", "BadOffer", "NotWished", "CHOOSER_MOST", "is_whole", "is_set", "all_sets", "subsets_of", "together", "same_offers", "chooser_line", "chooser_head", "chooser_part", "chooser_is_part", "Chooser", "side_check_set", "side_check_standing", "side_is_part", "side_check_part", "side_is_offer", "side_set_with", "side_set_without", "agreed_by", "wished_beside", "side_settled"]
def topNames1 : List PySem.Str := ["settled_among", "is_agreed", "is_settled", "settled_sets", "press_check", "press_in_order", "press_behind", "press_moves", "press_graph", "pressed_all", "parts_behind", "first_chain", "chain_settled_ends", "chain_ends", "judge_chain", "chain_end_of", "chain_is_part", "chain_lot_holds", "chain_holds", "change_check_settled", "change_check_new", "change_outcomes", "with_offer", "without_offer", "is_touched", "is_list", "list_first", "firsts", "by_lists", "ring_ranks"]
def topNames2 : List PySem.Str := ["longest_chain", "does_go_round", "ring_walk", "judge_ends", "ring_is_rank", "ring_ranks_hold", "ends_hold", "rounds_of", "best_settled", "first_shrinking", "does_shrink", "_law_deck", "_law_draw", "_law_orders", "_law_part_right", "_law_change_right"]
def topNames : List PySem.Str := topNames0 ++ topNames1 ++ topNames2
abbrev rowR : PySem.W.OpenRow := PySem.W.OpenLaw.row PySem.Challenge.rw_offerstands_k48_whole_loans_pressed_in
abbrev rowQ : Program := PySem.W.view rowR.prog [87]
abbrev hkX : PySem.W.Hook := He.hookX 5 faL fnL [] tfL (fun _ => true)
def obX (s : PySem.W.SharedT) : He.AlX := He.obsX 5 faL fnL [] tfL (fun _ => true) (HandSHeadRun.getT s)
theorem obX_eq (s : PySem.W.SharedT) : obX s = hkX.obs s.abs := He.obsX_eq (HandSHeadRun.getT_eq s)
theorem runX (w : World) : HandSHeadRun.RunEq rowR rowQ hkX obX 12000 topNames w := by
  intro os
  kernel_rfl
end Ost
set_option Elab.async false
set_option linter.all false
set_option maxRecDepth 100000
set_option maxHeartbeats 4000000
/-! K1: values by what they stand for, slots by types, judgements without heaps. -/
namespace Ost
open PySem PySem.Spec PyProof.Rows L2
open C8 (Cal pe_c Mak pe_mk Met pe_gc)

/-! ### what stays: all that is tracked; of tables of code objects, what they tell -/
def noT : HO → Bool
  | .tbl _ => false
  | _ => true
abbrev lamQ : Str := "press_in_order.<locals>.<lambda>"
structure Same (H H' : Hp) : Prop where
  obj : ∀ b o, H b = some o → noT o = true → H' b = some o
  tbl : ∀ b ps, H b = some (.tbl ps) → ∃ more, H' b = some (.tbl (ps ++ more))
  tab : ∀ P, LamX.TabS H P lamQ → LamX.TabS H' P lamQ
theorem Same.get {H H' : Hp} (e : Same H H') {b : Addr} {o : HO} (h : H b = some o) (n : noT o = true := by rfl) : H' b = some o := e.obj b o h n
theorem Same.refl (H : Hp) : Same H H := ⟨fun _ _ h _ => h, fun _ ps h => ⟨#[], by rw [h]; simp⟩, fun _ h => h⟩
theorem Same.trans {H H1 H2 : Hp} (a : Same H H1) (b : Same H1 H2) : Same H H2 := ⟨fun c o h n => b.obj c o (a.obj c o h n) n, fun c ps h => by
  obtain ⟨m1, e1⟩ := a.tbl c ps h
  obtain ⟨m2, e2⟩ := b.tbl c _ e1
  exact ⟨m1 ++ m2, by rw [e2, Array.append_assoc]⟩, fun P h => b.tab P (a.tab P h)⟩
theorem Same.free {H H' : Hp} (e : Same H H') {l : Addr} (h : H' l = none) : H l = none := by
  cases q : H l with
  | none => rfl
  | some o =>
    cases hn : noT o with
    | true => rw [e.obj l o q hn] at h; cases h
    | false =>
      cases o with
      | tbl ps => obtain ⟨m, e1⟩ := e.tbl l ps q; rw [e1] at h; cases h
      | _ => cases hn
theorem Same.of {H H' : Hp} (e : ∀ b o, H b = some o → H' b = some o) : Same H H' := ⟨fun b o h _ => e b o h, fun b ps h => ⟨#[], by rw [e _ _ h]; simp⟩, fun _ h => h.ext e⟩
/-- no code object stands at p -/
def NoCode (H : Hp) (p : Addr) : Prop := ∀ c q, H p ≠ some (LamX.CodeO c q)
theorem nocode_of {H : Hp} {p : Addr} {o : HO} (h : H p = some o) (n : ∀ φ, o ≠ .ext φ) : NoCode H p := fun c q e => by
  rw [h] at e
  exact n _ (Option.some.inj e)
theorem nocode_lst {H : Hp} {p : Addr} {xs : List V} (h : H p = some (.lst xs)) : NoCode H p := nocode_of h fun φ z => by cases z
theorem nocode_dT {H : Hp} {p : Addr} {xs : List (List Key × V)} (h : H p = some (.dT xs)) : NoCode H p := nocode_of h fun φ z => by cases z
theorem nocode_dK {H : Hp} {p : Addr} {xs : List (Key × V)} (h : H p = some (.dK xs)) : NoCode H p := nocode_of h fun φ z => by cases z
theorem nocode_ins {H : Hp} {p C dx : Addr} {xs : List (Str × V)} (h : H p = some (.ins C dx xs)) : NoCode H p := nocode_of h fun φ z => by cases z
theorem nocode_frz {H : Hp} {p : Addr} {o : Obj} {u : HO} (h : H p = some (.frz o u)) : NoCode H p := nocode_of h fun φ z => by cases z
theorem nocode_none {H : Hp} {p : Addr} (h : H p = none) : NoCode H p := fun c q e => by rw [h] at e; cases e
theorem same_upd {H : Hp} {p : Addr} {o : HO} (h : H p = none) : Same H (upd H p o) := .of fun b x e => by
  rw [upd_ne (ne_of_none e h)]
  exact e
/-- what the entry knows stays, also when a thing that it does not know is written -/
theorem same_mut {H H' : Hp} {p : Addr} {o : HO} (e : Same H H') (h : H p = none) (nc : NoCode H' p) : Same H (upd H' p o) := ⟨fun a u ha n => by
  rw [upd_ne (ne_of_none ha h)]
  exact e.obj a u ha n, fun b ps hb => by
  rw [upd_ne (ne_of_none hb h)]
  exact e.tbl b ps hb, fun P ht => by
  obtain ⟨ps0, h0, _⟩ := id ht
  obtain ⟨ps, h1, h2, h3⟩ := e.tab P ht
  refine ⟨ps, by rw [upd_ne (ne_of_none h0 h)]; exact h1, h2, fun pos cv hc => ?_⟩
  obtain ⟨c, e1, e2⟩ := h3 pos cv hc
  have : c ≠ p := fun z => nc c lamQ (by rw [← z]; exact e2)
  exact ⟨c, e1, by rw [upd_ne this]; exact e2⟩⟩

/-! ### data at values -/
mutual
def Tp (H : Hp) : PyData → V → Prop
  | .none, v => v = .non
  | .bool b, v => v = .bl b
  | .int i, v => v = .int i
  | .str x, v => v = .str x
  | .tuple ds, v => ∃ a xs, v = .ref a ∧ H a = some (.tup xs) ∧ TpAll H ds xs
  | .list ds, v => ∃ a xs, v = .ref a ∧ H a = some (.lst xs) ∧ TpAll H ds xs
  | .dict _, _ => False
def TpAll (H : Hp) : List PyData → List V → Prop
  | [], xs => xs = []
  | d :: ds, xs => ∃ v vs, xs = v :: vs ∧ Tp H d v ∧ TpAll H ds vs
end
theorem tp_none {H : Hp} {v : V} : Tp H .none v ↔ v = .non := by rw [Tp]
theorem tp_bool {H : Hp} {v : V} {b : Bool} : Tp H (.bool b) v ↔ v = .bl b := by rw [Tp]
theorem tp_int {H : Hp} {v : V} {i : Int} : Tp H (.int i) v ↔ v = .int i := by rw [Tp]
theorem tp_str {H : Hp} {v : V} {x : Str} : Tp H (.str x) v ↔ v = .str x := by rw [Tp]
theorem tp_tuple {H : Hp} {v : V} {ds : List PyData} : Tp H (.tuple ds) v ↔ ∃ a xs, v = .ref a ∧ H a = some (.tup xs) ∧ TpAll H ds xs := by rw [Tp]
theorem tp_list {H : Hp} {v : V} {ds : List PyData} : Tp H (.list ds) v ↔ ∃ a xs, v = .ref a ∧ H a = some (.lst xs) ∧ TpAll H ds xs := by rw [Tp]
theorem ta_nil {H : Hp} {xs : List V} : TpAll H [] xs ↔ xs = [] := by rw [TpAll]
theorem ta_cons {H : Hp} {xs : List V} {d : PyData} {ds : List PyData} : TpAll H (d :: ds) xs ↔ ∃ v vs, xs = v :: vs ∧ Tp H d v ∧ TpAll H ds vs := by rw [TpAll]
theorem TpAll.cons {H : Hp} {v : V} {vs : List V} {d : PyData} {ds : List PyData} (h : Tp H d v) (t : TpAll H ds vs) : TpAll H (d :: ds) (v :: vs) := ta_cons.mpr ⟨v, vs, rfl, h, t⟩
theorem TpAll.nil {H : Hp} : TpAll H [] [] := ta_nil.mpr rfl

mutual
theorem Tp.mono {H H' : Hp} (e : Same H H') : ∀ (d : PyData) (v : V), Tp H d v → Tp H' d v
  | .none, v, h => tp_none.mpr (tp_none.mp h)
  | .bool b, v, h => tp_bool.mpr (tp_bool.mp h)
  | .int i, v, h => tp_int.mpr (tp_int.mp h)
  | .str x, v, h => tp_str.mpr (tp_str.mp h)
  | .tuple ds, v, h => by
    obtain ⟨a, xs, h1, h2, h3⟩ := tp_tuple.mp h
    exact tp_tuple.mpr ⟨a, xs, h1, e.get h2, TpAll.mono e ds xs h3⟩
  | .list ds, v, h => by
    obtain ⟨a, xs, h1, h2, h3⟩ := tp_list.mp h
    exact tp_list.mpr ⟨a, xs, h1, e.get h2, TpAll.mono e ds xs h3⟩
  | .dict ds, v, h => by rw [Tp] at h; exact h.elim
theorem TpAll.mono {H H' : Hp} (e : Same H H') : ∀ (ds : List PyData) (vs : List V), TpAll H ds vs → TpAll H' ds vs
  | [], vs, h => ta_nil.mpr (ta_nil.mp h)
  | d :: ds, vs, h => by
    obtain ⟨v, r, h1, h2, h3⟩ := ta_cons.mp h
    exact ta_cons.mpr ⟨v, r, h1, Tp.mono e d v h2, TpAll.mono e ds r h3⟩
end

/-! ### tuples stay, whatever is written -/
def Tups (H H' : Hp) : Prop := ∀ a xs, H a = some (.tup xs) → H' a = some (.tup xs)
theorem Tups.of {H H' : Hp} (e : Same H H') : Tups H H' := fun a xs h => e.get h
theorem Tups.refl (H : Hp) : Tups H H := fun _ _ h => h
theorem Tups.trans {H H1 H2 : Hp} (a : Tups H H1) (b : Tups H1 H2) : Tups H H2 := fun c xs h => b c xs (a c xs h)
/-- a written thing that is no tuple -/
theorem Tups.upd {H : Hp} {l : Addr} {o : HO} (n : ∀ xs, H l ≠ some (.tup xs)) : Tups H (upd H l o) := fun a xs h => by
  by_cases e : a = l
  · subst e; exact absurd h (n xs)
  · rw [upd_ne e]; exact h
theorem Tups.lst {H : Hp} {l : Addr} {ys : List V} {o : HO} (h : H l = some (.lst ys)) : Tups H (L2.upd H l o) := Tups.upd fun xs e => by rw [h] at e; cases e
theorem Tups.dT {H : Hp} {l : Addr} {ys : List (List Key × V)} {o : HO} (h : H l = some (.dT ys)) : Tups H (L2.upd H l o) := Tups.upd fun xs e => by rw [h] at e; cases e
theorem Tups.dK {H : Hp} {l : Addr} {ys : List (Key × V)} {o : HO} (h : H l = some (.dK ys)) : Tups H (L2.upd H l o) := Tups.upd fun xs e => by rw [h] at e; cases e
theorem Tups.new {H : Hp} {l : Addr} {o : HO} (h : H l = none) : Tups H (L2.upd H l o) := Tups.upd fun xs e => by rw [h] at e; cases e
/-! data without lists -/
mutual
def noL : PyData → Bool
  | .tuple ds => noLs ds
  | .list _ => false
  | .dict _ => false
  | _ => true
def noLs : List PyData → Bool
  | [] => true
  | d :: ds => noL d && noLs ds
end
theorem noL_tuple (ds : List PyData) : noL (.tuple ds) = noLs ds := by rw [noL]
theorem noL_list (ds : List PyData) : noL (.list ds) = false := by rw [noL]
theorem noL_int (i : Int) : noL (.int i) = true := by simp [noL]
theorem noLs_cons (d : PyData) (ds : List PyData) : noLs (d :: ds) = (noL d && noLs ds) := by rw [noLs]
theorem noLs_nil : noLs [] = true := by rw [noLs]
theorem noLs_of : ∀ {ds : List PyData}, (∀ d ∈ ds, noL d = true) → noLs ds = true
  | [], _ => noLs_nil
  | d :: ds, h => by
    rw [noLs_cons, h d (List.mem_cons_self ..), noLs_of fun x hx => h x (List.mem_cons_of_mem _ hx)]
    rfl
mutual
theorem Tp.keep {H H' : Hp} (e : Tups H H') : ∀ (d : PyData) (v : V), noL d = true → Tp H d v → Tp H' d v
  | .none, v, _, h => tp_none.mpr (tp_none.mp h)
  | .bool b, v, _, h => tp_bool.mpr (tp_bool.mp h)
  | .int i, v, _, h => tp_int.mpr (tp_int.mp h)
  | .str x, v, _, h => tp_str.mpr (tp_str.mp h)
  | .tuple ds, v, n, h => by
    obtain ⟨a, xs, h1, h2, h3⟩ := tp_tuple.mp h
    rw [noL_tuple] at n
    exact tp_tuple.mpr ⟨a, xs, h1, e a _ h2, TpAll.keep e ds xs n h3⟩
  | .list ds, v, n, h => by rw [noL_list] at n; cases n
  | .dict ds, v, _, h => by rw [Tp] at h; exact h.elim
theorem TpAll.keep {H H' : Hp} (e : Tups H H') : ∀ (ds : List PyData) (vs : List V), noLs ds = true → TpAll H ds vs → TpAll H' ds vs
  | [], vs, _, h => ta_nil.mpr (ta_nil.mp h)
  | d :: ds, vs, n, h => by
    obtain ⟨v, r, h1, h2, h3⟩ := ta_cons.mp h
    rw [noLs_cons, Bool.and_eq_true] at n
    exact ta_cons.mpr ⟨v, r, h1, Tp.keep e d v n.1 h2, TpAll.keep e ds r n.2 h3⟩
end

/-! ### lists of data -/
theorem TpAll.length {H : Hp} : ∀ {ds : List PyData} {vs : List V}, TpAll H ds vs → vs.length = ds.length
  | [], vs, h => by rw [ta_nil.mp h]; rfl
  | d :: ds, vs, h => by
    obtain ⟨v, r, rfl, h2, h3⟩ := ta_cons.mp h
    rw [List.length_cons, List.length_cons, TpAll.length h3]
theorem TpAll.get {H : Hp} : ∀ {ds : List PyData} {vs : List V} {i : Nat} {d : PyData}, TpAll H ds vs → ds[i]? = some d → ∃ v, vs[i]? = some v ∧ Tp H d v
  | [], vs, i, d, h, e => by simp at e
  | c :: ds, vs, 0, d, h, e => by
    obtain ⟨v, r, rfl, h2, h3⟩ := ta_cons.mp h
    have e1 : c = d := by simpa using e
    subst e1
    exact ⟨v, rfl, h2⟩
  | c :: ds, vs, i + 1, d, h, e => by
    obtain ⟨v, r, rfl, h2, h3⟩ := ta_cons.mp h
    obtain ⟨u, e2, t⟩ := TpAll.get (i := i) h3 (by simpa using e)
    exact ⟨u, by simpa using e2, t⟩
theorem TpAll.got {H : Hp} {ds : List PyData} {vs : List V} {i : Nat} {v : V} (h : TpAll H ds vs) (e : vs[i]? = some v) : ∃ d, ds[i]? = some d ∧ Tp H d v := by
  obtain ⟨hi, _⟩ := List.getElem?_eq_some_iff.mp e
  rw [h.length] at hi
  obtain ⟨u, e2, t⟩ := h.get (List.getElem?_eq_getElem hi)
  rw [e] at e2
  cases e2
  exact ⟨_, List.getElem?_eq_getElem hi, t⟩
theorem TpAll.append {H : Hp} : ∀ {ds es : List PyData} {vs us : List V}, TpAll H ds vs → TpAll H es us → TpAll H (ds ++ es) (vs ++ us)
  | [], es, vs, us, h, t => by rw [ta_nil.mp h]; exact t
  | d :: ds, es, vs, us, h, t => by
    obtain ⟨v, r, rfl, h2, h3⟩ := ta_cons.mp h
    exact TpAll.cons h2 (TpAll.append h3 t)
theorem TpAll.one {H : Hp} {d : PyData} {v : V} (h : Tp H d v) : TpAll H [d] [v] := TpAll.cons h TpAll.nil
theorem TpAll.snoc {H : Hp} {ds : List PyData} {vs : List V} {d : PyData} {v : V} (h : TpAll H ds vs) (t : Tp H d v) : TpAll H (ds ++ [d]) (vs ++ [v]) := h.append (TpAll.one t)
theorem TpAll.ints {H : Hp} : ∀ {ns : List Int} {vs : List V}, TpAll H (ns.map .int) vs ↔ vs = ns.map V.int
  | [], vs => ta_nil
  | n :: ns, vs => by
    constructor
    · intro h
      obtain ⟨v, r, rfl, h2, h3⟩ := ta_cons.mp h
      rw [tp_int.mp h2, TpAll.ints.mp h3]
      rfl
    · intro h
      subst h
      exact TpAll.cons (tp_int.mpr rfl) (TpAll.ints.mpr rfl)
theorem TpAll.take {H : Hp} : ∀ (n : Nat) {ds : List PyData} {vs : List V}, TpAll H ds vs → TpAll H (ds.take n) (vs.take n)
  | 0, _, _, _ => by simpa using TpAll.nil
  | n + 1, [], vs, h => by rw [ta_nil.mp h]; simpa using TpAll.nil
  | n + 1, d :: ds, vs, h => by
    obtain ⟨v, r, rfl, h2, h3⟩ := ta_cons.mp h
    exact TpAll.cons h2 (TpAll.take n h3)
theorem TpAll.drop {H : Hp} : ∀ (n : Nat) {ds : List PyData} {vs : List V}, TpAll H ds vs → TpAll H (ds.drop n) (vs.drop n)
  | 0, _, _, h => h
  | n + 1, [], vs, h => by rw [ta_nil.mp h]; simpa using TpAll.nil
  | n + 1, d :: ds, vs, h => by
    obtain ⟨v, r, rfl, h2, h3⟩ := ta_cons.mp h
    exact TpAll.drop n h3
/-- a set, a chain, a list: a tuple of ints -/
abbrev sD (s : List Int) : PyData := .tuple (s.map .int)
theorem tp_sD {H : Hp} {v : V} {s : List Int} : Tp H (sD s) v ↔ ∃ a, v = .ref a ∧ H a = some (.tup (s.map V.int)) := by
  rw [tp_tuple]
  constructor
  · rintro ⟨a, xs, rfl, h1, h2⟩
    exact ⟨a, rfl, by rw [h1, TpAll.ints.mp h2]⟩
  · rintro ⟨a, rfl, h1⟩
    exact ⟨a, _, rfl, h1, TpAll.ints.mpr rfl⟩
theorem noL_sD (s : List Int) : noL (sD s) = true := by
  rw [noL_tuple]
  exact noLs_of fun d hd => by obtain ⟨i, _, rfl⟩ := List.mem_map.mp hd; exact noL_int i

/-! ### as the layer's data -/
mutual
theorem Tp.dp {K : PySem.W.Frag} {H : Hp} : ∀ (d : PyData) (v : V), Tp H d v → Dp K H v d
  | .none, v, h => by rw [tp_none.mp h]; exact .non
  | .bool b, v, h => by rw [tp_bool.mp h]; exact .bl b
  | .int i, v, h => by rw [tp_int.mp h]; exact .int i
  | .str x, v, h => by rw [tp_str.mp h]; exact .str x
  | .tuple ds, v, h => by
    obtain ⟨a, xs, rfl, h2, h3⟩ := tp_tuple.mp h
    exact .tup (SqT.of h2) (TpAll.dp ds xs h3)
  | .list ds, v, h => by
    obtain ⟨a, xs, rfl, h2, h3⟩ := tp_list.mp h
    exact .lst (SqL.of h2) (TpAll.dp ds xs h3)
  | .dict ds, v, h => by rw [Tp] at h; exact h.elim
theorem TpAll.dp {K : PySem.W.Frag} {H : Hp} : ∀ (ds : List PyData) (vs : List V), TpAll H ds vs → DpAll K H vs ds
  | [], vs, h => by rw [ta_nil.mp h]; exact .nil
  | d :: ds, vs, h => by
    obtain ⟨v, r, rfl, h2, h3⟩ := ta_cons.mp h
    exact .cons (Tp.dp d v h2) (TpAll.dp ds r h3)
end
/-! ### shapes -/
def Sh (k : Nat) (d : PyData) : Prop := d.canLay0 = true ∧ d.depth ≤ k
theorem Sh.ok {k : Nat} {d : PyData} (h : Sh k d) (hk : k ≤ 64) : SeqAt.shaped d = true := by
  show (d.canLay0 && decide (d.depth ≤ 64)) = true
  rw [h.1, decide_eq_true (Nat.le_trans h.2 hk)]
  rfl
theorem sh_all {k : Nat} : ∀ {ds : List PyData}, (∀ d ∈ ds, Sh k d) → PyData.canLayAll0 ds = true ∧ PyData.depthAll ds ≤ k
  | [], _ => by simp [PyData.canLayAll0, PyData.depthAll]
  | d :: ds, h => by
    have h1 := h d (List.mem_cons_self ..)
    have h2 := sh_all fun x hx => h x (List.mem_cons_of_mem d hx)
    simp only [PyData.canLayAll0, PyData.depthAll, h1.1, h2.1, Bool.and_self, true_and]
    have a1 := h1.2
    have a2 := h2.2
    omega
theorem sh_int {k : Nat} (i : Int) : Sh k (.int i) := by constructor <;> simp [PyData.canLay0, PyData.depth]
theorem sh_str {k : Nat} (i : Str) (h : PyData.strOk i = true) : Sh k (.str i) := by constructor <;> simp [PyData.canLay0, PyData.depth, h]
theorem sh_bool {k : Nat} (i : Bool) : Sh k (.bool i) := by constructor <;> simp [PyData.canLay0, PyData.depth]
theorem sh_none {k : Nat} : Sh k .none := by constructor <;> simp [PyData.canLay0, PyData.depth]
theorem sh_tup {k : Nat} {ds : List PyData} (h : ∀ d ∈ ds, Sh k d) : Sh (k + 1) (.tuple ds) := by
  have := sh_all h
  constructor
  · simp only [PyData.canLay0, this.1]
  · simp only [PyData.depth]; omega
theorem sh_lst {k : Nat} {ds : List PyData} (h : ∀ d ∈ ds, Sh k d) : Sh (k + 1) (.list ds) := by
  have := sh_all h
  constructor
  · simp only [PyData.canLay0, this.1]
  · simp only [PyData.depth]; omega
theorem sh_sD {k : Nat} (s : List Int) : Sh (k + 1) (sD s) := sh_tup fun d hd => by obtain ⟨i, _, rfl⟩ := List.mem_map.mp hd; exact sh_int i

/-! ### types of values -/
structure VT where
  P : V → Hp → Prop
  mono : ∀ {v : V} {H H' : Hp}, Same H H' → P v H → P v H'
def dt (d : PyData) : VT := ⟨fun v H => Tp H d v, fun e h => Tp.mono e d _ h⟩
def anyT : VT := ⟨fun _ _ => True, fun _ h => h⟩
theorem dt_int {H : Hp} (i : Int) : (dt (.int i)).P (.int i) H := (tp_int (H := H) (i := i)).mpr rfl
theorem dt_bl {H : Hp} (i : Bool) : (dt (.bool i)).P (.bl i) H := (tp_bool (H := H) (b := i)).mpr rfl
theorem dt_non {H : Hp} : (dt .none).P .non H := (tp_none (H := H)).mpr rfl
theorem dt_str {H : Hp} (i : Str) : (dt (.str i)).P (.str i) H := (tp_str (H := H) (x := i)).mpr rfl
theorem of_int {H : Hp} {v : V} {i : Int} (h : (dt (.int i)).P v H) : v = .int i := (tp_int (H := H) (i := i)).mp h
theorem of_bl {H : Hp} {v : V} {i : Bool} (h : (dt (.bool i)).P v H) : v = .bl i := (tp_bool (H := H) (b := i)).mp h
theorem of_tup {H : Hp} {v : V} {ds : List PyData} (h : (dt (.tuple ds)).P v H) : ∃ a xs, v = .ref a ∧ H a = some (.tup xs) ∧ TpAll H ds xs := (tp_tuple (H := H) (ds := ds)).mp h
theorem of_lst {H : Hp} {v : V} {ds : List PyData} (h : (dt (.list ds)).P v H) : ∃ a xs, v = .ref a ∧ H a = some (.lst xs) ∧ TpAll H ds xs := (tp_list (H := H) (ds := ds)).mp h
theorem dt_tup {H : Hp} {a : Addr} {xs : List V} {ds : List PyData} (h : H a = some (.tup xs)) (t : TpAll H ds xs) : (dt (.tuple ds)).P (.ref a) H := (tp_tuple (H := H) (ds := ds)).mpr ⟨a, xs, rfl, h, t⟩
theorem dt_lst {H : Hp} {a : Addr} {xs : List V} {ds : List PyData} (h : H a = some (.lst xs)) (t : TpAll H ds xs) : (dt (.list ds)).P (.ref a) H := (tp_list (H := H) (ds := ds)).mpr ⟨a, xs, rfl, h, t⟩
theorem dt_P {d : PyData} {v : V} {H : Hp} : (dt d).P v H ↔ Tp H d v := Iff.rfl

/-! ### slots by types -/
abbrev Gm := List (Option VT)
structure Ty (Γ : Gm) (σ : L2.St) (H : Hp) : Prop where
  len : Γ.length = σ.length
  at_ : ∀ (i : Nat) (t : VT), Γ[i]? = some (some t) → ∃ v, σ[i]? = some (some v) ∧ t.P v H
theorem Ty.mono {Γ : Gm} {σ : L2.St} {H H' : Hp} (e : Same H H') (h : Ty Γ σ H) : Ty Γ σ H' := ⟨h.len, fun i t q => by
  obtain ⟨v, h1, h2⟩ := h.at_ i t q
  exact ⟨v, h1, t.mono e h2⟩⟩
theorem Ty.set {Γ : Gm} {σ : L2.St} {H : Hp} (h : Ty Γ σ H) (j : Nat) {t : VT} {v : V} (hv : t.P v H) : Ty (Γ.set j (some t)) (σ.set j (some v)) H := by
  refine ⟨by rw [List.length_set, List.length_set, h.len], fun i u q => ?_⟩
  by_cases e : j = i
  · subst e
    by_cases hj : j < Γ.length
    · rw [List.getElem?_set_self hj] at q
      cases q
      exact ⟨v, List.getElem?_set_self (by rw [← h.len]; exact hj), hv⟩
    · rw [List.getElem?_eq_none (by rw [List.length_set]; omega)] at q
      cases q
  · rw [List.getElem?_set_ne e] at q
    rw [List.getElem?_set_ne e]
    exact h.at_ i u q
theorem Ty.unset {Γ : Gm} {σ : L2.St} {H : Hp} (h : Ty Γ σ H) (j : Nat) : Ty (Γ.set j none) (σ.set j none) H := by
  refine ⟨by rw [List.length_set, List.length_set, h.len], fun i u q => ?_⟩
  by_cases e : j = i
  · subst e
    by_cases hj : j < Γ.length
    · rw [List.getElem?_set_self hj] at q
      cases q
    · rw [List.getElem?_eq_none (by rw [List.length_set]; omega)] at q
      cases q
  · rw [List.getElem?_set_ne e] at q
    rw [List.getElem?_set_ne e]
    exact h.at_ i u q
def wipeG (Γ : Gm) : List Nat → Gm
  | [] => Γ
  | v :: vs => (wipeG Γ vs).set v none
theorem Ty.wipe {Γ : Gm} {σ : L2.St} {H : Hp} (h : Ty Γ σ H) : ∀ vs : List Nat, Ty (wipeG Γ vs) (L2.wipe σ vs) H
  | [] => h
  | v :: vs => (h.wipe vs).unset v
def Fits : List VT → List V → Hp → Prop
  | [], [], _ => True
  | t :: ts, v :: vs, H => t.P v H ∧ Fits ts vs H
  | _, _, _ => False
theorem Fits.mono : ∀ {ts : List VT} {vs : List V} {H H' : Hp}, Same H H' → Fits ts vs H → Fits ts vs H'
  | [], [], _, _, _, h => h
  | t :: ts, v :: vs, _, _, e, h => ⟨t.mono e h.1, Fits.mono e h.2⟩
  | [], _ :: _, _, _, _, h => h.elim
  | _ :: _, [], _, _, _, h => h.elim
theorem Fits.length : ∀ {ts : List VT} {vs : List V} {H : Hp}, Fits ts vs H → vs.length = ts.length
  | [], [], _, h => rfl
  | t :: ts, v :: vs, _, h => by rw [List.length_cons, List.length_cons, Fits.length h.2]
  | [], _ :: _, _, h => h.elim
  | _ :: _, [], _, h => h.elim
theorem ty_fits : ∀ {ts : List VT} {vs : List V} {H : Hp}, Fits ts vs H → ∀ n, Ty (ts.map some ++ List.replicate n none) (vs.map some ++ List.replicate n none) H
  | [], [], H, _, n => ⟨by simp, fun i t q => by
      have q : (List.replicate n (none : Option VT))[i]? = some (some t) := by simpa using q
      rw [List.getElem?_replicate] at q
      split at q <;> cases q⟩
  | t :: ts, v :: vs, H, h, n => by
      have ih := ty_fits h.2 n
      refine ⟨by have := ih.len; simpa using this, fun i u q => ?_⟩
      cases i with
      | zero =>
        have e : t = u := by simpa using q
        subst e
        exact ⟨v, rfl, h.1⟩
      | succ i => exact ih.at_ i u (by simpa using q)
  | [], _ :: _, _, h, _ => h.elim
  | _ :: _, [], _, h, _ => h.elim
theorem ty_start {ts : List VT} {vs : List V} {H : Hp} (h : Fits ts vs H) (N : List Str) : Ty (ts.map some ++ List.replicate (N.length - ts.length) none) (L2.start N vs) H := by
  unfold L2.start
  rw [h.length]
  exact ty_fits h _

/-! ### judgements -/
/-- te gives a value of the type t, and leaves all that is tracked -/
def Jd (Γ : Gm) (te : TE) (t : VT) : Prop := ∀ σ H, Ty Γ σ H → ∀ Q : VK, (∀ v H2, Same H H2 → t.P v H2 → Q v H2) → te σ H Q
/-- .. a new list of data -/
def Jf (Γ : Gm) (te : TE) (ds : List PyData) : Prop := ∀ σ H, Ty Γ σ H → ∀ Q : VK, (∀ l vs H2, Same H H2 → H l = none → H2 l = some (.lst vs) → TpAll H2 ds vs → Q (.ref l) H2) → te σ H Q
def Jt (Γ : Gm) (tt : TT) (b : Bool) : Prop := ∀ σ H, Ty Γ σ H → ∀ Q : Bool → Hp → Prop, (∀ H2, Same H H2 → Q b H2) → tt σ H Q
def Ja (Γ : Gm) (ta : TA) (ts : List VT) : Prop := ∀ σ H, Ty Γ σ H → ∀ Q : List V → Hp → Prop, (∀ vs H2, Same H H2 → Fits ts vs H2 → Q vs H2) → ta σ H Q
/-- a statement: behind it C holds and the slots are of the types Γ', or it hands back an R -/
def Js (Γ : Gm) (t : TS) (Γ' : Gm) (C : Prop) (R : VT) : Prop := ∀ σ H, Ty Γ σ H → ∀ D : Ends, (C → ∀ σ' H', Same H H' → Ty Γ' σ' H' → D.nx σ' H') → (∀ v H', Same H H' → R.P v H' → D.rt v H') → t D σ H

section
variable {Γ Γ' Γ1 Γ2 : Gm} {ta tb te : TE} {t u : TT} {d d' : PyData} {ds es : List PyData} {K : PySem.W.Frag} {A B T R : VT} {C C1 C2 : Prop} {b c : Bool}
theorem jd_var {i : Nat} (h : Γ[i]? = some (some T)) : Jd Γ (tVar i) T := fun σ H ty Q k => by
  obtain ⟨v, h1, h2⟩ := ty.at_ i T h
  exact ⟨v, h1, k v H (Same.refl H) h2⟩
theorem jd_c {v : V} (h : ∀ H, T.P v H) : Jd Γ (tC v) T := fun σ H ty Q k => k v H (Same.refl H) (h H)
theorem jd_int {i : Int} : Jd Γ (tC (.int i)) (dt (.int i)) := jd_c fun H => dt_int _
theorem jd_bl {i : Bool} : Jd Γ (tC (.bl i)) (dt (.bool i)) := jd_c fun H => dt_bl _
theorem jd_non : Jd Γ (tC .non) (dt .none) := jd_c fun H => dt_non
theorem jd_str {x : Str} : Jd Γ (tC (.str x)) (dt (.str x)) := jd_c fun H => dt_str _
theorem jd_of_jf (h : Jf Γ te ds) : Jd Γ te (dt (.list ds)) := fun σ H ty Q k => h σ H ty Q fun l vs H2 e _ h1 h2 => k _ H2 e (dt_lst h1 h2)
theorem Jd.eq (h : Jd Γ te (dt d)) (e : d = d') : Jd Γ te (dt d') := e ▸ h
theorem Jt.eq (h : Jt Γ t b) (e : b = c) : Jt Γ t c := e ▸ h
theorem Jf.eq (h : Jf Γ te ds) (e : ds = es) : Jf Γ te es := e ▸ h
theorem Jd.imp (h : Jd Γ te A) (i : ∀ v H, A.P v H → B.P v H) : Jd Γ te B := fun σ H ty Q k => h σ H ty Q fun v H2 e p => k v H2 e (i v H2 p)
theorem ja_nil : Ja Γ tNil [] := fun σ H ty Q k => k [] H (Same.refl H) trivial
theorem ja_cons {ts : List VT} {tr : TA} (h : Jd Γ ta A) (r : Ja Γ tr ts) : Ja Γ (tCons ta tr) (A :: ts) := fun σ H ty Q k =>
  h σ H ty _ fun v H1 e1 p1 => r σ H1 (ty.mono e1) _ fun vs H2 e2 p2 => k _ H2 (e1.trans e2) ⟨A.mono e2 p1, p2⟩
/-- two values, then an operator -/
theorem jd_op {r : R2} (h1 : Jd Γ ta A) (h2 : Jd Γ tb B) (hr : ∀ x y H (Q : VK), A.P x H → B.P y H → (∀ v H2, Same H H2 → T.P v H2 → Q v H2) → r x y H Q) : Jd Γ (tOp r ta tb) T := fun σ H ty Q k =>
  h1 σ H ty _ fun x H1 e1 p1 => h2 σ H1 (ty.mono e1) _ fun y H2 e2 p2 => hr x y H2 Q (A.mono e2 p1) p2 fun v H3 e3 p3 => k v H3 ((e1.trans e2).trans e3) p3
theorem jf_op {r : R2} (h1 : Jd Γ ta A) (h2 : Jd Γ tb B) (hr : ∀ x y H (Q : VK), A.P x H → B.P y H → (∀ l vs H2, Same H H2 → H l = none → H2 l = some (.lst vs) → TpAll H2 ds vs → Q (.ref l) H2) → r x y H Q) : Jf Γ (tOp r ta tb) ds := fun σ H ty Q k =>
  h1 σ H ty _ fun x H1 e1 p1 => h2 σ H1 (ty.mono e1) _ fun y H2 e2 p2 => hr x y H2 Q (A.mono e2 p1) p2 fun l vs H3 e3 n a b => k l vs H3 ((e1.trans e2).trans e3) ((e1.trans e2).free n) a b
/-- a built-in's call, by values -/
theorem jd_cb {r : List V → Hp → VK → Prop} {tg : TA} {ts : List VT} (h : Ja Γ tg ts) (hr : ∀ vs H (Q : VK), Fits ts vs H → (∀ v H2, Same H H2 → T.P v H2 → Q v H2) → r vs H Q) : Jd Γ (tCB r tg) T := fun σ H ty Q k =>
  h σ H ty _ fun vs H1 e1 p1 => hr vs H1 Q p1 fun v H2 e2 p2 => k v H2 (e1.trans e2) p2
theorem jf_cb {r : List V → Hp → VK → Prop} {tg : TA} {ts : List VT} (h : Ja Γ tg ts) (hr : ∀ vs H (Q : VK), Fits ts vs H → (∀ l us H2, Same H H2 → H l = none → H2 l = some (.lst us) → TpAll H2 ds us → Q (.ref l) H2) → r vs H Q) : Jf Γ (tCB r tg) ds := fun σ H ty Q k =>
  h σ H ty _ fun vs H1 e1 p1 => hr vs H1 Q p1 fun l us H2 e2 n a b => k l us H2 (e1.trans e2) (e1.free n) a b
/-! ### tuples, lists made -/
def Das : List VT → List PyData → Prop
  | [], [] => True
  | t :: ts, d :: ds => t = dt d ∧ Das ts ds
  | _, _ => False
theorem fits_dt : ∀ {ds : List PyData} {vs : List V} {H : Hp}, Fits (ds.map dt) vs H → TpAll H ds vs
  | [], [], _, _ => TpAll.nil
  | d :: ds, v :: vs, _, h => TpAll.cons h.1 (fits_dt h.2)
  | [], _ :: _, _, h => h.elim
  | _ :: _, [], _, h => h.elim
theorem jd_tup {tg : TA} (h : Ja Γ tg (ds.map dt)) (hl : ds.length ≤ 1000) : Jd Γ (tTup tg) (dt (.tuple ds)) := fun σ H ty Q k =>
  h σ H ty _ fun vs H1 e1 p1 => by
    have hp := fits_dt p1
    refine ⟨by rw [hp.length]; exact Nat.le_of_lt (small1000 hl), fun p hn => ?_⟩
    have e2 : Same H1 (upd H1 p (.tup vs)) := same_upd hn
    exact k _ _ (e1.trans e2) (dt_tup upd_same (TpAll.mono e2 _ _ hp))
theorem jf_lst {tg : TA} (h : Ja Γ tg (ds.map dt)) (hl : ds.length ≤ 1000) : Jf Γ (tLst tg) ds := fun σ H ty Q k =>
  h σ H ty _ fun vs H1 e1 p1 => by
    have hp := fits_dt p1
    refine ⟨by rw [hp.length]; exact Nat.le_of_lt (small1000 hl), fun p hn => ?_⟩
    have e2 : Same H1 (upd H1 p (.lst vs)) := same_upd hn
    exact k p vs _ (e1.trans e2) (e1.free hn) upd_same (TpAll.mono e2 _ _ hp)

/-! ### tests -/
theorem jt_test (h : Jd Γ te (dt (.bool b))) : Jt Γ (tTest te) b := fun σ H ty Q k => h σ H ty _ fun v H2 e p => ⟨b, of_bl p, k H2 e⟩
theorem jt_B (h : Jd Γ te (dt (.bool b))) : Jt Γ (tB te) b := fun σ H ty Q k => h σ H ty _ fun v H2 e p => ⟨b, of_bl p, k H2 e⟩
theorem jt_yes : Jt Γ tYes true := fun σ H ty Q k => k H (Same.refl H)
theorem jt_not (h : Jt Γ t b) : Jt Γ (tNot t) (!b) := fun σ H ty Q k => h σ H ty _ fun H2 e => k H2 e
theorem jt_and (h1 : Jt Γ t b) (h2 : b = true → Jt Γ u c) : Jt Γ (tAnd t u) (b && c) := fun σ H ty Q k => h1 σ H ty _ fun H1 e1 => by
  cases b with
  | true => exact iteT (h2 rfl σ H1 (ty.mono e1) Q fun H2 e2 => k H2 (e1.trans e2))
  | false => exact iteF (k H1 e1)
theorem jt_or (h1 : Jt Γ t b) (h2 : b = false → Jt Γ u c) : Jt Γ (tOr t u) (b || c) := fun σ H ty Q k => h1 σ H ty _ fun H1 e1 => by
  cases b with
  | true => exact iteT (k H1 e1)
  | false => exact iteF (h2 rfl σ H1 (ty.mono e1) Q fun H2 e2 => k H2 (e1.trans e2))
theorem jd_and (h1 : Jd Γ ta (dt (.bool b))) (h2 : b = true → Jd Γ tb (dt (.bool c))) : Jd Γ (tAndV ta tb) (dt (.bool (b && c))) := fun σ H ty Q k => h1 σ H ty _ fun v H1 e1 p => ⟨b, of_bl p, by
  cases b with
  | true => exact iteT (h2 rfl σ H1 (ty.mono e1) Q fun v2 H2 e2 p2 => k v2 H2 (e1.trans e2) p2)
  | false => exact iteF (k _ H1 e1 (dt_bl _))⟩
theorem jd_not (h : Jd Γ te (dt (.bool b))) : Jd Γ (tNotV te) (dt (.bool (!b))) := fun σ H ty Q k => h σ H ty _ fun v H2 e p => ⟨b, of_bl p, k _ H2 e (dt_bl _)⟩
theorem jd_if (h : Jt Γ t b) (h1 : b = true → Jd Γ ta T) (h2 : b = false → Jd Γ tb T) : Jd Γ (tIf t ta tb) T := fun σ H ty Q k => h σ H ty _ fun H1 e1 => by
  cases b with
  | true => exact iteT (h1 rfl σ H1 (ty.mono e1) Q fun v H2 e2 p => k v H2 (e1.trans e2) p)
  | false => exact iteF (h2 rfl σ H1 (ty.mono e1) Q fun v H2 e2 p => k v H2 (e1.trans e2) p)

/-! ### statements -/
variable {s1 s2 : TS}
theorem js_seq (h1 : Js Γ s1 Γ1 C1 R) (h2 : C1 → Js Γ1 s2 Γ2 C2 R) : Js Γ (tSeq s1 s2) Γ2 C2 R := fun σ H ty D k r =>
  h1 σ H ty _ (fun c σ1 H1 e1 ty1 => h2 c σ1 H1 ty1 D (fun c2 σ2 H2 e2 ty2 => k c2 σ2 H2 (e1.trans e2) ty2) fun v H2 e2 p => r v H2 (e1.trans e2) p) r
theorem js_asg {i : Nat} (h : Jd Γ te T) : Js Γ (tAsg te (gName i)) (Γ.set i (some T)) True R := fun σ H ty D k r =>
  h σ H ty _ fun v H1 e1 p => k trivial _ H1 e1 ((ty.mono e1).set i p)
theorem js_drop (h : Jd Γ te T) : Js Γ (tDrop te) Γ True R := fun σ H ty D k r => h σ H ty _ fun v H1 e1 p => k trivial _ H1 e1 (ty.mono e1)
theorem js_ret (h : Jd Γ te R) : Js Γ (tRet te) Γ' C R := fun σ H ty D k r => h σ H ty _ fun v H1 e1 p => r v H1 e1 p
theorem js_if (h : Jt Γ t b) (h1 : b = true → Js Γ s1 Γ' C R) (h2 : b = false → Js Γ s2 Γ' C R) : Js Γ (tIfS t s1 s2) Γ' C R := fun σ H ty D k r => h σ H ty _ fun H1 e1 => by
  have go : ∀ {s : TS}, Js Γ s Γ' C R → s D σ H1 := fun {s} hs => hs σ H1 (ty.mono e1) D (fun c σ2 H2 e2 ty2 => k c σ2 H2 (e1.trans e2) ty2) fun v H2 e2 p => r v H2 (e1.trans e2) p
  cases b with
  | true => exact iteT (go (h1 rfl))
  | false => exact iteF (go (h2 rfl))
theorem js_next (c : C) : Js Γ tNext Γ C R := fun σ H ty D k r => k c σ H (Same.refl H) ty
/-- a test that is known to fail: what it guards is not come to -/
theorem js_guard (h : Jt Γ t false) : Js Γ (tIfS t s1 tNext) Γ True R := js_if h (fun z => by cases z) fun _ => js_next trivial
theorem Js.imp (h : Js Γ s1 Γ1 C1 R) (i : C1 → C2) : Js Γ s1 Γ1 C2 R := fun σ H ty D k r => h σ H ty D (fun c σ2 H2 e2 ty2 => k (i c) σ2 H2 e2 ty2) r

/-! ### promises of defs that leave all that is tracked -/
structure Sg (α : Type) where
  dom : α → Prop
  ts : α → List VT
  R : α → VT
def Sg.sp {α : Type} (S : Sg α) : Sp := fun vs H Q _ => ∃ x : α, S.dom x ∧ Fits (S.ts x) vs H ∧ ∀ v H', Same H H' → (S.R x).P v H' → Q v H'
theorem jd_call {α : Type} {S : Sg α} {tg : TA} {E : XK} (x : α) (hd : S.dom x) (h : Ja Γ tg (S.ts x)) : Jd Γ (tCall S.sp [] E tg) (S.R x) := fun σ H ty Q k =>
  h σ H ty _ fun vs H1 e1 p1 => ⟨x, hd, by rw [List.append_nil]; exact p1, fun v H2 e2 p2 => k v H2 (e1.trans e2) p2⟩
end

/-- a def by its body's judgement -/
theorem fn_js {P : Program} {w : World} {K : PySem.W.Frag} {mg : Str → Option Value} {base : Heap} {α : Type} {S : Sg α} {x qual : Str} {st : Stmt} {f : Addr} {fd : FuncData} {N ps : List Str} {k : Nat}
    (F : FunD K x qual (defArgs st) (defBody st) (defScope st) [] [] f fd) (Sc : FnScope N ps (defScope st)) (hl : ∀ a, (S.ts a).length = ps.length)
    (hbody : ∀ (cdv : Value) (A : Around) (outer : List Env) (s : Shared) (H : Hp) (E : XK), Room k (A.deeper (envOfC qual (defScope st) s.heap.objs.size f cdv)) →
      ∃ t, PSs (cxOf CX0 P w K mg base N qual (defScope st) f cdv A outer s H E) (defBody st) t ∧
        ∀ a, S.dom a → ∃ Γ' C, Js ((S.ts a).map some ++ List.replicate (N.length - (S.ts a).length) none) t Γ' C (S.R a) ∧ (C → ∀ H, (S.R a).P .non H)) :
    FnOk P w K mg base CX0 (k + 1) f fd ps S.sp := by
  refine F.ok Sc (fun vs H Q E h => ?_) (fun cdv A outer s H vs Q E hr h => ?_)
  · obtain ⟨a, _, ha, _⟩ := h
    rw [ha.length, hl]
  · obtain ⟨a, hd, ha, hq⟩ := h
    obtain ⟨t, ht, hj⟩ := hbody cdv A outer s H E hr
    obtain ⟨Γ', C, hJ, hC⟩ := hj a hd
    refine ⟨t, ht, hJ _ H (ty_start ha N) _ (fun c σ' H' e' ty' => ?_) fun v H' e' p => hq v H' e' p⟩
    exact hq _ H' e' (hC c H')
/-- .. as a constant of the module -/
theorem cal_of {P : Program} {w : World} {K : PySem.W.Frag} {mg : Str → Option Value} {base : Heap} {sp : Sp} {x qual : Str} {st : Stmt} {f : Addr} {fd : FuncData} {ps : List Str} {k : Nat}
    (F : FunD K x qual (defArgs st) (defBody st) (defScope st) [] [] f fd) (G : FnOk P w K mg base CX0 k f fd ps sp) (m : mg x = some (.ref f))
    (h : ∀ (kV doc pm : Value) (an : Option Addr) (cdv ct : Value) (us : List Value), us.length = ps.length → bindArgs (PySem.W.fnOf x qual (defArgs st) (defBody st) (defScope st) .none kV doc pm an cdv ct) ⟨us, []⟩ = pure (ps.zip us)) :
    Cal P w K mg base k x sp [] := ⟨f, fd, ps, [], G, m, F.kp, F.bindsN h, .nil⟩
end Ost
set_option Elab.async false
set_option linter.all false
set_option maxRecDepth 100000
set_option maxHeartbeats 4000000
/-! K2: walks, comprehensions, loops; operators of whatever values. -/
namespace Ost
open PySem PySem.Spec PyProof.Rows L2
open C8 (Cal pe_c Mak pe_mk Met pe_gc)

/-! ### what is walked -/
/-- wi walks xs; each a of it comes as a value of the type Y a -/
def Ji {α : Type} (Γ : Gm) (wi : TI) (xs : List α) (Y : α → VT) : Prop := ∀ σ H, Ty Γ σ H → ∀ R : It → Hp → Prop,
  (∀ (J : It) (H1 : Hp) (G : Hp → Prop) (Yw : Nat → Hp → V → Hp → Prop), Same H H1 → Walk J xs.length G Yw → G H1 → (∀ Ha Hb, Same Ha Hb → G Ha → G Hb) →
    (∀ i Ha x Hb, Same H1 Ha → G Ha → i < xs.length → Yw i Ha x Hb → ∃ a, xs[i]? = some a ∧ Same Ha Hb ∧ (Y a).P x Hb) → R J H1) → wi σ H R
/-- a target binds: g stores a value of the type Y a; the slots at vs alone change -/
def Tg {α : Type} (g : TG) (Y : α → VT) (bind : α → Gm → Gm) (vs : List Nat) : Prop := ∀ (Γ : Gm) (a : α) (x : V) (σ : L2.St) (H : Hp) (Q : L2.St → Hp → Prop), Ty Γ σ H → (Y a).P x H →
  (∀ σ', Ty (bind a Γ) σ' H → σ'.length = σ.length → (∀ i, i ∉ vs → σ'[i]? = σ[i]?) → Q σ' H) → g x σ H Q
theorem tg_name {α : Type} {Y : α → VT} (j : Nat) : Tg (gName j) Y (fun a Γ => Γ.set j (some (Y a))) [j] := fun Γ a x σ H Q ty p k =>
  k _ (ty.set j p) (by rw [List.length_set]) fun i hi => List.getElem?_set_ne (by simp at hi; omega)
theorem tg_pair {α : Type} {K : PySem.W.Frag} {A B : α → PyData} (j1 j2 : Nat) :
    Tg (gTup K 2 (gCons (gName j1) (gCons (gName j2) gNil))) (fun a : α => dt (.tuple [A a, B a])) (fun a Γ => (Γ.set j1 (some (dt (A a)))).set j2 (some (dt (B a)))) [j1, j2] := fun Γ a x σ H Q ty p k => by
  obtain ⟨t, xs, rfl, h1, h2⟩ := of_tup p
  obtain ⟨u, r, rfl, p1, h3⟩ := ta_cons.mp h2
  obtain ⟨w, r2, rfl, p2, h4⟩ := ta_cons.mp h3
  rw [ta_nil] at h4
  subst h4
  refine ⟨t, [u, w], rfl, SqT.of h1, rfl, u, [w], rfl, w, [], rfl, rfl, k _ ((ty.set j1 (t := dt (A a)) p1).set j2 (t := dt (B a)) p2) (by rw [List.length_set, List.length_set]) fun i hi => ?_⟩
  simp only [List.mem_cons, List.not_mem_nil, or_false, not_or] at hi
  rw [List.getElem?_set_ne (by omega), List.getElem?_set_ne (by omega)]
theorem wipe_get (σ : L2.St) : ∀ (vs : List Nat) (i : Nat), (L2.wipe σ vs)[i]? = if i ∈ vs ∧ i < σ.length then some none else σ[i]?
  | [], i => by simp [L2.wipe]
  | v :: vs, i => by
    have ih := wipe_get σ vs i
    have hl := wipe_length σ vs
    unfold L2.wipe
    by_cases e : v = i
    · subst e
      by_cases hv : v < σ.length
      · rw [List.getElem?_set_self (by rw [hl]; exact hv), if_pos ⟨List.mem_cons_self .., hv⟩]
      · rw [List.getElem?_eq_none (by rw [List.length_set, hl]; omega), if_neg (fun z => hv z.2), List.getElem?_eq_none (by omega)]
    · rw [List.getElem?_set_ne e, ih]
      by_cases hi : i ∈ vs <;> simp [List.mem_cons, Ne.symm e, hi]
theorem wipe_same {σ σ' : L2.St} {vs : List Nat} (hl : σ'.length = σ.length) (h : ∀ i, i ∉ vs → σ'[i]? = σ[i]?) : L2.wipe σ' vs = L2.wipe σ vs := by
  refine List.ext_getElem? fun i => ?_
  rw [wipe_get, wipe_get, hl]
  by_cases hi : i ∈ vs
  · by_cases hs : i < σ.length
    · rw [if_pos ⟨hi, hs⟩, if_pos ⟨hi, hs⟩]
    · rw [if_neg fun z => hs z.2, if_neg fun z => hs z.2, List.getElem?_eq_none (by omega), List.getElem?_eq_none (by omega)]
  · rw [if_neg fun z => hi z.1, if_neg fun z => hi z.1, h i hi]
theorem wipe_wipe (σ : L2.St) (vs : List Nat) : L2.wipe (L2.wipe σ vs) vs = L2.wipe σ vs := wipe_same (wipe_length σ vs) fun i hi => by rw [wipe_get, if_neg fun z => hi z.1]

theorem take_snoc {α : Type} {xs : List α} {i : Nat} {a : α} (h : xs[i]? = some a) : xs.take (i + 1) = xs.take i ++ [a] := by rw [List.take_add_one, h]; rfl
theorem filter_len {α : Type} (p : α → Bool) (xs : List α) (i : Nat) : ((xs.take i).filter p).length ≤ xs.length := Nat.le_trans (List.length_filter_le _ _) (by rw [List.length_take]; omega)

section
variable {Γ : Gm} {wi : TI} {g : TG} {tt : TT} {te : TE} {vs : List Nat} {tb : TS} {R : VT}
/-- the list that a comprehension makes -/
theorem jf_lc {α : Type} {xs : List α} {Y : α → VT} {bind : α → Gm → Gm} {p : α → Bool} {q : α → PyData} (hi : Ji Γ wi xs Y) (hg : Tg g Y bind vs) (ht : ∀ a ∈ xs, Jt (bind a (wipeG Γ vs)) tt (p a))
    (he : ∀ a ∈ xs, p a = true → Jd (bind a (wipeG Γ vs)) te (dt (q a))) (hn : xs.length ≤ 1000) (hq : ∀ a ∈ xs, p a = true → noL (q a) = true) : Jf Γ (tLc wi g tt te vs) ((xs.filter p).map q) := fun σ H ty Q k => by
  refine hi σ H ty _ fun J H1 G Yw e1 W g1 gm gy D hD => ?_
  have nls : ∀ i, noLs (((xs.take i).filter p).map q) = true := fun i => noLs_of fun d hd => by
    obtain ⟨a, ha, rfl⟩ := List.mem_map.mp hd
    obtain ⟨h1, h2⟩ := List.mem_filter.mp ha
    exact hq a (List.mem_of_mem_take h1) h2
  refine lc_it W (fun i H' => Same H1 H' ∧ ∃ ls, H' D = some (.lst ls) ∧ TpAll H' (((xs.take i).filter p).map q) ls) ⟨same_upd hD, [], upd_same, TpAll.nil⟩ (fun i H' _ ⟨e, _⟩ => gm _ _ e g1) (fun i x Ha Hb hlt ⟨e, ls, hl, hp⟩ hy => ?_) fun H' ⟨e, ls, hl, hp⟩ => ?_
  · obtain ⟨a, ha, eb, pa⟩ := gy i Ha x Hb e (gm _ _ e g1) hlt hy
    have ma : a ∈ xs := List.mem_of_getElem? ha
    have tyb : Ty (wipeG Γ vs) (L2.wipe σ vs) Hb := (((ty.mono e1).mono e).mono eb).wipe vs
    refine hg _ a x _ Hb _ tyb pa fun σ' ty' hl' hs' => ⟨(wipe_same hl' hs').trans (wipe_wipe σ vs), ?_⟩
    refine ht a ma σ' Hb ty' _ fun H3 e3 => ?_
    have hl3 : H3 D = some (.lst ls) := e3.get (eb.get hl)
    have hp3 : TpAll H3 (((xs.take i).filter p).map q) ls := TpAll.mono (eb.trans e3) _ _ hp
    cases hpa : p a with
    | false =>
      refine iteF ⟨(e.trans eb).trans e3, ls, hl3, ?_⟩
      rw [take_snoc ha, List.filter_append, List.filter_cons_of_neg (by rw [hpa]; exact Bool.false_ne_true), List.filter_nil, List.append_nil]
      exact hp3
    | true =>
      refine iteT (he a ma hpa σ' H3 (ty'.mono e3) _ fun v H4 e4 pv => ?_)
      have hl4 : H4 D = some (.lst ls) := e4.get hl3
      have hlen : ls.length < sizeLine := by
        rw [hp.length, List.length_map]
        exact small1000 (Nat.le_trans (filter_len p xs i) hn)
      refine ⟨ls, hl4, hlen, same_mut (((e.trans eb).trans e3).trans e4) hD (nocode_lst hl4), ls ++ [v], upd_same, ?_⟩
      rw [take_snoc ha, List.filter_append, List.filter_cons_of_pos hpa, List.filter_nil, List.map_append]
      exact (TpAll.keep (Tups.lst hl4) _ _ (nls i) (TpAll.mono e4 _ _ hp3)).snoc (Tp.keep (Tups.lst hl4) _ _ (hq a ma hpa) pv)
  · rw [List.take_of_length_le (Nat.le_refl _)] at hp
    exact k D ls H' (e1.trans e) (e1.free hD) hl hp
theorem yes_go {σ : L2.St} {H : Hp} {Q : Bool → Hp → Prop} (h : Q true H) : tYes σ H Q := h
/-- .. of new lists -/
theorem jf_lcL {α : Type} {xs : List α} {Y : α → VT} {bind : α → Gm → Gm} {q : α → List PyData} (hi : Ji Γ wi xs Y) (hg : Tg g Y bind vs)
    (he : ∀ a ∈ xs, Jf (bind a (wipeG Γ vs)) te (q a)) (hn : xs.length ≤ 1000) (hq : ∀ a ∈ xs, noLs (q a) = true) : Jf Γ (tLc wi g tYes te vs) (xs.map fun a => .list (q a)) := fun σ H ty Q k => by
  refine hi σ H ty _ fun J H1 G Yw e1 W g1 gm gy D hD => ?_
  have key : ∀ {H' : Hp} {ls : List V} (z : HO), H' D = some (.lst ls) → ∀ (i : Nat) (us : List V), (∀ x ∈ us, x ≠ .ref D) → TpAll H' ((xs.take i).map fun a => .list (q a)) us → TpAll (upd H' D z) ((xs.take i).map fun a => .list (q a)) us := by
    intro H' ls z hl i
    have : ∀ (ys : List α), (∀ a ∈ ys, a ∈ xs) → ∀ us : List V, (∀ x ∈ us, x ≠ .ref D) → TpAll H' (ys.map fun a => .list (q a)) us → TpAll (upd H' D z) (ys.map fun a => .list (q a)) us := by
      intro ys
      induction ys with
      | nil => intro _ us _ h; exact ta_nil.mpr (ta_nil.mp h)
      | cons a ys ih =>
        intro hm us hne h
        obtain ⟨v, r, rfl, h1, h2⟩ := ta_cons.mp h
        obtain ⟨b, bs, rfl, h3, h4⟩ := tp_list.mp h1
        have hb : b ≠ D := fun z => hne (.ref b) (List.mem_cons_self ..) (by rw [z])
        exact TpAll.cons (tp_list.mpr ⟨b, bs, rfl, by rw [upd_ne hb]; exact h3, TpAll.keep (Tups.lst hl) _ _ (hq a (hm a (List.mem_cons_self ..))) h4⟩) (ih (fun c hc => hm c (List.mem_cons_of_mem _ hc)) r (fun x hx => hne x (List.mem_cons_of_mem _ hx)) h2)
    exact this _ fun a ha => List.mem_of_mem_take ha
  refine lc_it W (fun i H' => Same H1 H' ∧ ∃ ls, H' D = some (.lst ls) ∧ (∀ x ∈ ls, x ≠ .ref D) ∧ TpAll H' ((xs.take i).map fun a => .list (q a)) ls) ⟨same_upd hD, [], upd_same, (fun x hx => by cases hx), TpAll.nil⟩ (fun i H' _ ⟨e, _⟩ => gm _ _ e g1) (fun i x Ha Hb hlt ⟨e, ls, hl, hne, hp⟩ hy => ?_) fun H' ⟨e, ls, hl, _, hp⟩ => ?_
  · obtain ⟨a, ha, eb, pa⟩ := gy i Ha x Hb e (gm _ _ e g1) hlt hy
    have ma : a ∈ xs := List.mem_of_getElem? ha
    have tyb : Ty (wipeG Γ vs) (L2.wipe σ vs) Hb := (((ty.mono e1).mono e).mono eb).wipe vs
    refine hg _ a x _ Hb _ tyb pa fun σ' ty' hl' hs' => ⟨(wipe_same hl' hs').trans (wipe_wipe σ vs), ?_⟩
    have hl3 : Hb D = some (.lst ls) := eb.get hl
    have hp3 : TpAll Hb ((xs.take i).map fun a => .list (q a)) ls := TpAll.mono eb _ _ hp
    refine yes_go (iteT (he a ma σ' Hb ty' _ fun l us H4 e4 nl h4 hu => ?_))
    have hl4 : H4 D = some (.lst ls) := e4.get hl3
    have hlen : ls.length < sizeLine := by
      rw [hp.length, List.length_map, List.length_take]
      exact small1000 (by omega)
    have hlD : l ≠ D := fun z => by subst z; rw [hl3] at nl; cases nl
    refine ⟨ls, hl4, hlen, same_mut ((e.trans eb).trans e4) hD (nocode_lst hl4), ls ++ [.ref l], upd_same, fun x hx => ?_, ?_⟩
    · rcases List.mem_append.mp hx with hx | hx
      · exact hne x hx
      · rw [List.mem_singleton.mp hx]
        exact fun z => hlD (V.ref.inj z)
    · rw [take_snoc ha, List.map_append]
      exact (key _ hl4 i ls hne (TpAll.mono e4 _ _ hp3)).snoc (tp_list.mpr ⟨l, us, rfl, by rw [upd_ne hlD]; exact h4, TpAll.keep (Tups.lst hl4) _ _ (hq a ma) hu⟩)
  · rw [List.take_of_length_le (Nat.le_refl _)] at hp
    exact k D ls H' (e1.trans e) (e1.free hD) hl hp
/-- a loop that leaves all that is tracked -/
theorem js_for {α : Type} {xs : List α} {Y : α → VT} {bind : α → Gm → Gm} {Γs : Nat → Gm} {C : Nat → Prop} (hi : Ji (Γs 0) wi xs Y) (hg : Tg g Y bind vs) (c0 : C 0)
    (hb : ∀ i a, xs[i]? = some a → C i → Js (bind a (Γs i)) tb (Γs (i + 1)) (C (i + 1)) R) : Js (Γs 0) (tFor wi g tb) (Γs xs.length) (C xs.length) R := fun σ H ty D k r => by
  refine hi σ H ty _ fun J H1 G Yw e1 W g1 gm gy => ?_
  refine for_it W (fun i σ' H' => Same H1 H' ∧ C i ∧ Ty (Γs i) σ' H') ⟨Same.refl _, c0, ty.mono e1⟩ (fun i σ' H' _ ⟨e, _⟩ => gm _ _ e g1) (fun i x σ' Ha Hb hlt ⟨e, c, ty'⟩ hy => ?_) fun σ' H' ⟨e, c, ty'⟩ => k c σ' H' (e1.trans e) ty'
  obtain ⟨a, ha, eb, pa⟩ := gy i Ha x Hb e (gm _ _ e g1) hlt hy
  refine hg _ a x σ' Hb _ (ty'.mono eb) pa fun σ2 ty2 _ _ => hb i a ha c σ2 Hb ty2 _ (fun c3 σ3 H3 e3 ty3 => ⟨(e.trans eb).trans e3, c3, ty3⟩) fun v H3 e3 p3 => r v H3 (((e1.trans e).trans eb).trans e3) p3
end

/-! ### lists, tuples, ranges, enumerate, zip -/
section
variable {X : Cx} {tg l : Expr} {tl : TE}
theorem pi_or {w1 w2 : TI} (h1 : PI X tg l w1) (h2 : PI X tg l w2) : PI X tg l (fun σ H R => w1 σ H R ∨ w2 σ H R) := ⟨fun pins s σ H R I h => h.elim (h1.run pins s σ H R I) (h2.run pins s σ H R I)⟩
def iSeq (K : PySem.W.Frag) (tl : TE) : TI := fun σ H R => iList K tl σ H R ∨ iTup K tl σ H R
theorem pi_seq (h : PE X l tl) : PI X tg l (iSeq X.K tl) := pi_or (pi_list h) (pi_tup h)
end
section
variable {Γ : Gm} {tl : TE} {K : PySem.W.Frag} {α : Type} {xs : List α} {D : α → PyData}
theorem map_at {α β : Type} {f : α → β} {xs : List α} {i : Nat} {b : β} (h : (xs.map f)[i]? = some b) : ∃ a, xs[i]? = some a ∧ b = f a := by
  rw [List.getElem?_map] at h
  obtain ⟨a, h1, h2⟩ := Option.map_eq_some_iff.mp h
  exact ⟨a, h1, h2.symm⟩
theorem ji_tup (h : Jd Γ tl (dt (.tuple (xs.map D)))) : Ji Γ (iSeq K tl) xs fun a => dt (D a) := fun σ H ty R k => by
  refine .inr (h σ H ty _ fun v H1 e1 p => ?_)
  obtain ⟨a, vs, rfl, h1, h2⟩ := of_tup p
  have hlen : vs.length = xs.length := by rw [h2.length, List.length_map]
  refine ⟨a, rfl, ⟨vs, SqT.of h1⟩, k (Itt K a) H1 (fun H => H a = some (.tup vs)) (YAt vs) e1 (hlen ▸ walk_tup.mono (fun H z => SqT.of z) fun i H x H' _ _ y => y) h1 (fun Ha Hb e z => e.get z) fun i Ha x Hb e z hi y => ?_⟩
  obtain ⟨rfl, hx⟩ := y
  obtain ⟨d, hd, pd⟩ := h2.got hx
  obtain ⟨b, hb, rfl⟩ := map_at hd
  exact ⟨b, hb, Same.refl _, Tp.mono e _ _ pd⟩
theorem ji_lst (h : Jd Γ tl (dt (.list (xs.map D)))) : Ji Γ (iSeq K tl) xs fun a => dt (D a) := fun σ H ty R k => by
  refine .inl (h σ H ty _ fun v H1 e1 p => ?_)
  obtain ⟨a, vs, rfl, h1, h2⟩ := of_lst p
  have hlen : vs.length = xs.length := by rw [h2.length, List.length_map]
  refine ⟨a, rfl, ⟨vs, SqL.of h1⟩, k (Itl K a) H1 (fun H => H a = some (.lst vs)) (YAt vs) e1 (hlen ▸ walk_list.mono (fun H z => SqL.of z) fun i H x H' _ _ y => y) h1 (fun Ha Hb e z => e.get z) fun i Ha x Hb e z hi y => ?_⟩
  obtain ⟨rfl, hx⟩ := y
  obtain ⟨d, hd, pd⟩ := h2.got hx
  obtain ⟨b, hb, rfl⟩ := map_at hd
  exact ⟨b, hb, Same.refl _, Tp.mono e _ _ pd⟩
theorem ji_ints {s : List Int} (h : Jd Γ tl (dt (sD s))) : Ji Γ (iSeq K tl) s fun a => dt (.int a) := ji_tup (D := .int) h
/-- the ints from lo on, so many -/
def rgI (lo : Int) (n : Nat) : List Int := (List.range n).map fun (i : Nat) => lo + (i : Int)
theorem rgI_len (lo : Int) (n : Nat) : (rgI lo n).length = n := by unfold rgI; rw [List.length_map, List.length_range]
theorem rgI_at {lo : Int} {n i : Nat} (h : i < n) : (rgI lo n)[i]? = some (lo + (i : Int)) := by
  unfold rgI
  rw [List.getElem?_map, List.getElem?_range h]
  rfl
theorem ji_range2 {ta : TA} {lo hi : Int} (h : Ja Γ ta [dt (.int lo), dt (.int hi)]) (h1 : 0 ≤ lo) (h2 : lo ≤ 100000) (h3 : -100000 ≤ hi) (h4 : hi ≤ 100000) : Ji Γ (iRng2 ta) (rgI lo (hi - lo).toNat) fun a => dt (.int a) := fun σ H ty R k => by
  refine h σ H ty _ fun vs H1 e1 p => ?_
  match vs, p with
  | [x, y], p =>
    rw [of_int p.1, of_int p.2.1]
    refine ⟨lo, hi, rfl, ⟨by omega, by omega, by omega, by omega⟩, k _ H1 (fun _ => True) (YFn fun i => .int (lo + (i : Nat))) e1 ?_ trivial (fun _ _ _ _ => trivial) fun i Ha x Hb e z hi' y => ?_⟩
    · rw [rgI_len]
      exact walk_range
    · obtain ⟨rfl, rfl⟩ := y
      rw [rgI_len] at hi'
      exact ⟨_, rgI_at hi', Same.refl _, dt_int _⟩
theorem ji_range1 {ta : TA} {hi : Int} (h : Ja Γ ta [dt (.int hi)]) (h3 : -100000 ≤ hi) (h4 : hi ≤ 100000) : Ji Γ (iRng1 ta) (rgI 0 hi.toNat) fun a => dt (.int a) := fun σ H ty R k => by
  refine h σ H ty _ fun vs H1 e1 p => ?_
  match vs, p with
  | [y], p =>
    rw [of_int p.1]
    refine ⟨hi, rfl, by omega, by omega, k _ H1 (fun _ => True) (YFn fun i => .int (0 + (i : Nat))) e1 ?_ trivial (fun _ _ _ _ => trivial) fun i Ha x Hb e z hi' y => ?_⟩
    · rw [rgI_len]
      exact walk_range
    · obtain ⟨rfl, rfl⟩ := y
      rw [rgI_len] at hi'
      exact ⟨_, rgI_at hi', Same.refl _, dt_int _⟩
end

/-! ### operators -/
section
variable {X : Cx}
def rAddA (K : PySem.W.Frag) : R2 := fun x y H Q => rI0 (fun i j => .int (i + j)) x y H Q ∨ (rCatA K x y H Q ∨ rCat x y H Q)
theorem op_addA : OpR X (binaryOp .Add) (rAddA X.K) := op_add.or (op_catA.or op_cat)
def rIxA (K : PySem.W.Frag) : R2 := fun x y H Q => rIxL K x y H Q ∨ rIxT K x y H Q
theorem ix_A : IxR X (rIxA X.K) := ix_list.or ix_tup
/-- x in a tuple of data -/
def rInT (K : PySem.W.Frag) (neg : Bool) : R2 := fun x y H Q => ∃ d ds, Dp K H x d ∧ Dp K H y (.tuple ds) ∧ SeqAt.shaped d = true ∧ SeqAt.shaped (.tuple ds) = true ∧ Q (.bl (neg ^^ (ds.any fun z => PyData.eqv z d))) H
theorem roomT {A : Around} {d : PyData} {ds : List PyData} (h : SeqAt.shaped d = true) (hu : A.units + 65 < cLine) : A.units + 1 + min (PyData.depthAll ds) d.depth < cLine := by
  have h1 := SeqAt.depth_of_shaped h
  have h2 : min (PyData.depthAll ds) d.depth ≤ d.depth := Nat.min_le_right _ _
  omega
theorem op_inT (hu : X.A.units + 65 < cLine) : OpR X (compareOp .In) (rInT X.K false) := by
  intro pins s σ H x y v u Q I rx ry h
  obtain ⟨d, ds, hd, he, sd, se, q⟩ := h
  obtain ⟨as, r1⟩ := Dp.reads I d x v hd rx
  obtain ⟨bs, r2⟩ := Dp.reads I (.tuple ds) y u he ry
  exact SeqAt.in_tuple_reads r2 r1 (SeqAt.canLay_of_shaped se) (SeqAt.canLay_of_shaped sd) (roomT sd hu) ⟨.bl _, H, I, rfl, by rw [Bool.false_xor] at q; exact q⟩
theorem op_notInT (hu : X.A.units + 65 < cLine) : OpR X (compareOp .NotIn) (rInT X.K true) := by
  intro pins s σ H x y v u Q I rx ry h
  obtain ⟨d, ds, hd, he, sd, se, q⟩ := h
  obtain ⟨as, r1⟩ := Dp.reads I d x v hd rx
  obtain ⟨bs, r2⟩ := Dp.reads I (.tuple ds) y u he ry
  exact SeqAt.notIn_tuple_reads r2 r1 (SeqAt.canLay_of_shaped se) (SeqAt.canLay_of_shaped sd) (roomT sd hu) ⟨.bl _, H, I, rfl, by rw [Bool.true_xor] at q; exact q⟩
def rInA (K : PySem.W.Frag) (w : World) : R2 := fun x y H Q => rInT K false x y H Q ∨ (rInD K x y H Q ∨ rSIn w x y H Q)
def rNotInA (K : PySem.W.Frag) (w : World) : R2 := fun x y H Q => rInT K true x y H Q ∨ (rNotInD K x y H Q ∨ rSNotIn w x y H Q)
theorem op_inA (hu : X.A.units + 65 < cLine) : OpR X (compareOp .In) (rInA X.K X.w) := (op_inT hu).or ((op_inD hu).or or_sin)
theorem op_notInA (hu : X.A.units + 65 < cLine) : OpR X (compareOp .NotIn) (rNotInA X.K X.w) := (op_notInT hu).or ((op_notInD hu).or or_snotin)
end
end Ost
set_option linter.all false
/-! M0: sets as ascending lists of ints; what the program's small functions compute. Plain Lean. -/
namespace Ost

/-! ### ascending lists -/
def sins (x : Int) : List Int → List Int
  | [] => [x]
  | y :: r => if x < y then x :: y :: r else if x = y then y :: r else y :: sins x r
def canon (l : List Int) : List Int := l.foldr sins []
theorem mem_sins {x z : Int} : ∀ {l : List Int}, z ∈ sins x l ↔ z = x ∨ z ∈ l
  | [] => by simp [sins]
  | y :: r => by
    unfold sins
    split
    · simp
    · split
      · rename_i h; subst h; simp
      · rw [List.mem_cons, mem_sins, List.mem_cons]
        constructor
        · rintro (h | h | h) <;> simp [h]
        · rintro (h | h | h) <;> simp [h]
theorem asc_sins {x : Int} : ∀ {l : List Int}, l.Pairwise (· < ·) → (sins x l).Pairwise (· < ·)
  | [], _ => by simp [sins]
  | y :: r, h => by
    obtain ⟨h1, h2⟩ := List.pairwise_cons.mp h
    unfold sins
    split
    · rename_i hx
      refine List.pairwise_cons.mpr ⟨fun z hz => ?_, h⟩
      rcases List.mem_cons.mp hz with e | e
      · rw [e]; exact hx
      · exact Int.lt_trans hx (h1 z e)
    · split
      · exact h
      · rename_i hx he
        refine List.pairwise_cons.mpr ⟨fun z hz => ?_, asc_sins h2⟩
        rcases mem_sins.mp hz with e | e
        · rw [e]; omega
        · exact h1 z e
theorem mem_canon {z : Int} : ∀ {l : List Int}, z ∈ canon l ↔ z ∈ l
  | [] => by simp [canon]
  | y :: r => by
    show z ∈ sins y (canon r) ↔ _
    rw [mem_sins, mem_canon, List.mem_cons]
theorem asc_canon : ∀ l : List Int, (canon l).Pairwise (· < ·)
  | [] => List.Pairwise.nil
  | y :: r => asc_sins (asc_canon r)
/-- an ascending list is told by its members -/
theorem asc_ext : ∀ {s t : List Int}, s.Pairwise (· < ·) → t.Pairwise (· < ·) → (∀ x, x ∈ s ↔ x ∈ t) → s = t
  | [], [], _, _, _ => rfl
  | [], y :: t, _, _, h => absurd ((h y).mpr (List.mem_cons_self ..)) (by simp)
  | x :: s, [], _, _, h => absurd ((h x).mp (List.mem_cons_self ..)) (by simp)
  | x :: s, y :: t, hs, ht, h => by
    obtain ⟨h1, h2⟩ := List.pairwise_cons.mp hs
    obtain ⟨h3, h4⟩ := List.pairwise_cons.mp ht
    have e : x = y := by
      have a := (h x).mp (List.mem_cons_self ..)
      have b := (h y).mpr (List.mem_cons_self ..)
      rcases List.mem_cons.mp a with a | a
      · exact a
      · rcases List.mem_cons.mp b with b | b
        · exact b.symm
        · have := h1 y b; have := h3 x a; omega
    subst e
    congr 1
    refine asc_ext h2 h4 fun z => ?_
    constructor
    · intro hz
      rcases List.mem_cons.mp ((h z).mp (List.mem_cons_of_mem _ hz)) with e | e
      · have := h1 z hz; omega
      · exact e
    · intro hz
      rcases List.mem_cons.mp ((h z).mpr (List.mem_cons_of_mem _ hz)) with e | e
      · have := h3 z hz; omega
      · exact e
theorem canon_asc {s : List Int} (h : s.Pairwise (· < ·)) : canon s = s := asc_ext (asc_canon s) h fun _ => mem_canon
theorem asc_nodup {s : List Int} (h : s.Pairwise (· < ·)) : s.Nodup := h.imp fun {a b} h => by omega
/-- two put together; one with an offer -/
def tog (a b : List Int) : List Int := canon (a ++ b)
def withO (s : List Int) (o : Int) : List Int := tog s [o]
theorem mem_tog {z : Int} {a b : List Int} : z ∈ tog a b ↔ z ∈ a ∨ z ∈ b := by unfold tog; rw [mem_canon, List.mem_append]
theorem mem_withO {z o : Int} {s : List Int} : z ∈ withO s o ↔ z ∈ s ∨ z = o := by unfold withO; rw [mem_tog, List.mem_singleton]
theorem asc_tog (a b : List Int) : (tog a b).Pairwise (· < ·) := asc_canon _
theorem asc_withO (s : List Int) (o : Int) : (withO s o).Pairwise (· < ·) := asc_canon _
/-- a set of n offers -/
def IsSet (n : Nat) (s : List Int) : Prop := s.Pairwise (· < ·) ∧ ∀ x ∈ s, 0 ≤ x ∧ x < (n : Int)
theorem isSet_nil (n : Nat) : IsSet n [] := ⟨List.Pairwise.nil, fun _ h => by cases h⟩
theorem isSet_canon {n : Nat} {l : List Int} (h : ∀ x ∈ l, 0 ≤ x ∧ x < (n : Int)) : IsSet n (canon l) := ⟨asc_canon l, fun x hx => h x (mem_canon.mp hx)⟩
theorem isSet_tog {n : Nat} {s t : List Int} (h : IsSet n s) (h2 : IsSet n t) : IsSet n (tog s t) := isSet_canon fun x hx => (List.mem_append.mp hx).elim (h.2 x) (h2.2 x)
theorem isSet_withO {n : Nat} {s : List Int} {o : Int} (h : IsSet n s) (ho : 0 ≤ o ∧ o < (n : Int)) : IsSet n (withO s o) := isSet_canon fun x hx => (List.mem_append.mp hx).elim (h.2 x) fun q => by rw [List.mem_singleton.mp q]; exact ho
theorem isSet_filter {n : Nat} {s : List Int} (h : IsSet n s) (p : Int → Bool) : IsSet n (s.filter p) := ⟨h.1.filter p, fun x hx => h.2 x (List.mem_filter.mp hx).1⟩
theorem isSet_sub {n : Nat} {s t : List Int} (h : IsSet n s) (h1 : t.Pairwise (· < ·)) (h2 : ∀ x ∈ t, x ∈ s) : IsSet n t := ⟨h1, fun x hx => h.2 x (h2 x hx)⟩

theorem asc_len : ∀ {s : List Int} {lo : Int} {n : Nat}, s.Pairwise (· < ·) → (∀ x ∈ s, lo ≤ x ∧ x < lo + (n : Int)) → s.length ≤ n
  | [], _, _, _, _ => Nat.zero_le _
  | x :: s, lo, n, h, hb => by
    obtain ⟨h1, h2⟩ := List.pairwise_cons.mp h
    have hx := hb x (List.mem_cons_self ..)
    obtain ⟨m, rfl⟩ : ∃ m, n = m + 1 := ⟨n - 1, by omega⟩
    have : s.length ≤ m := asc_len (lo := lo + 1) h2 fun y hy => by
      have a := h1 y hy
      have b := hb y (List.mem_cons_of_mem _ hy)
      omega
    rw [List.length_cons]
    omega
theorem isSet_len {n : Nat} {s : List Int} (h : IsSet n s) : s.length ≤ n := asc_len (lo := 0) h.1 fun x hx => by have := h.2 x hx; omega
/-- a list's first that is in a set -/
def firstIn (row s : List Int) : Option Int := row.find? fun x => s.contains x
def without (s : List Int) (o : Int) : List Int := s.filter fun x => !decide (x = o)

/-! ### choosers as functions; presses -/
structure Ch where
  n : Nat
  f : List Int → List Int
/-- takes of each set a part of it -/
def ChOk (c : Ch) : Prop := ∀ s, IsSet c.n s → IsSet c.n (c.f s) ∧ ∀ x ∈ c.f s, x ∈ s
/-- two sides of equally many offers, at most six -/
structure Two (a b : Ch) (n : Nat) : Prop where
  an : a.n = n
  bn : b.n = n
  few : n ≤ 6
  pos : 1 ≤ n
  aok : ChOk a
  bok : ChOk b
def wished (a b : Ch) (st s : List Int) : List Int := st.filter fun o => !s.contains o && ((a.f (withO s o)).contains o && (b.f (withO s o)).contains o)
def pressB (a b : Ch) (s : List Int) (o : Int) : List Int := (a.f (withO s o)).filter fun x => (b.f (withO s o)).contains x
def movesOf (a b : Ch) (st s : List Int) : List (Int × List Int) := (wished a b st s).map fun o => (o, pressB a b s o)
def agreedB (a b : Ch) (s : List Int) : Bool := decide (a.f s = s) && decide (b.f s = s)
def settledB (a b : Ch) (st s : List Int) : Bool := agreedB a b s && decide (wished a b st s = [])
end Ost
set_option Elab.async false
set_option linter.all false
set_option maxRecDepth 100000
set_option maxHeartbeats 4000000
/-! K3: operators and built-ins by types; choosers. -/
namespace Ost
open PySem PySem.Spec PyProof.Rows L2
open C8 (Cal pe_c Mak pe_mk Met pe_gc)

section
variable {Γ : Gm} {ta tb te : TE} {d e : PyData} {ds es : List PyData} {K : PySem.W.Frag} {w : World} {b : Bool}
theorem jd_eqD (h1 : Jd Γ ta (dt d)) (h2 : Jd Γ tb (dt e)) (s1 : SeqAt.shaped d = true) (s2 : SeqAt.shaped e = true) : Jd Γ (tOp (rEqD K) ta tb) (dt (.bool (PyData.eqv d e))) :=
  jd_op h1 h2 fun x y H Q p1 p2 k => ⟨d, e, Tp.dp _ _ p1, Tp.dp _ _ p2, s1, s2, k _ H (Same.refl H) (dt_bl _)⟩
theorem jd_neD (h1 : Jd Γ ta (dt d)) (h2 : Jd Γ tb (dt e)) (s1 : SeqAt.shaped d = true) (s2 : SeqAt.shaped e = true) : Jd Γ (tOp (rNeD K) ta tb) (dt (.bool (!PyData.eqv d e))) :=
  jd_op h1 h2 fun x y H Q p1 p2 k => ⟨d, e, Tp.dp _ _ p1, Tp.dp _ _ p2, s1, s2, k _ H (Same.refl H) (dt_bl _)⟩
/-- a bool's comparison, by the scalars' rule -/
theorem jd_eqS {x y : V} {a c : Bool} (h1 : Jd Γ ta (dt (.bool a))) (h2 : Jd Γ tb (dt (.bool c))) : Jd Γ (tOp rNe ta tb) (dt (.bool (a != c))) :=
  jd_op h1 h2 fun x y H Q p1 p2 k => by
    rw [of_bl p1, of_bl p2]
    refine ⟨rfl, k _ H (Same.refl H) ?_⟩
    have : (!decide (V.bl a = V.bl c)) = (a != c) := by cases a <;> cases c <;> rfl
    rw [this]
    exact dt_bl _
theorem jd_I0 {g : Int → Int → V} {D : Int → Int → PyData} {i j : Int} (h1 : Jd Γ ta (dt (.int i))) (h2 : Jd Γ tb (dt (.int j))) (hg : ∀ H, (dt (D i j)).P (g i j) H) : Jd Γ (tOp (rI0 g) ta tb) (dt (D i j)) :=
  jd_op h1 h2 fun x y H Q p1 p2 k => by
    rw [of_int p1, of_int p2]
    exact ⟨i, j, rfl, rfl, k _ H (Same.refl H) (hg H)⟩
theorem jd_I {C : Int → Int → Prop} {g : Int → Int → V} {D : Int → Int → PyData} {i j : Int} (h1 : Jd Γ ta (dt (.int i))) (h2 : Jd Γ tb (dt (.int j))) (hc : C i j) (hg : ∀ H, (dt (D i j)).P (g i j) H) : Jd Γ (tOp (rI C g) ta tb) (dt (D i j)) :=
  jd_op h1 h2 fun x y H Q p1 p2 k => by
    rw [of_int p1, of_int p2]
    exact ⟨i, j, rfl, rfl, hc, k _ H (Same.refl H) (hg H)⟩
theorem jd_lt {i j : Int} (h1 : Jd Γ ta (dt (.int i))) (h2 : Jd Γ tb (dt (.int j))) : Jd Γ (tOp (rI0 fun i j => .bl (decide (i < j))) ta tb) (dt (.bool (decide (i < j)))) := jd_I0 (D := fun i j => .bool (decide (i < j))) h1 h2 fun H => dt_bl _
theorem jd_le {i j : Int} (h1 : Jd Γ ta (dt (.int i))) (h2 : Jd Γ tb (dt (.int j))) : Jd Γ (tOp (rI0 fun i j => .bl (decide (i ≤ j))) ta tb) (dt (.bool (decide (i ≤ j)))) := jd_I0 (D := fun i j => .bool (decide (i ≤ j))) h1 h2 fun H => dt_bl _
theorem jd_gt {i j : Int} (h1 : Jd Γ ta (dt (.int i))) (h2 : Jd Γ tb (dt (.int j))) : Jd Γ (tOp (rI0 fun i j => .bl (decide (j < i))) ta tb) (dt (.bool (decide (j < i)))) := jd_I0 (D := fun i j => .bool (decide (j < i))) h1 h2 fun H => dt_bl _
theorem jd_ge {i j : Int} (h1 : Jd Γ ta (dt (.int i))) (h2 : Jd Γ tb (dt (.int j))) : Jd Γ (tOp (rI0 fun i j => .bl (decide (j ≤ i))) ta tb) (dt (.bool (decide (j ≤ i)))) := jd_I0 (D := fun i j => .bool (decide (j ≤ i))) h1 h2 fun H => dt_bl _
theorem jd_sub {i j : Int} (h1 : Jd Γ ta (dt (.int i))) (h2 : Jd Γ tb (dt (.int j))) : Jd Γ (tOp (rI0 fun i j => .int (i - j)) ta tb) (dt (.int (i - j))) := jd_I0 (D := fun i j => .int (i - j)) h1 h2 fun H => dt_int _
theorem jd_mod {i j : Int} (h1 : Jd Γ ta (dt (.int i))) (h2 : Jd Γ tb (dt (.int j))) (hj : 0 < j) : Jd Γ (tOp (rI (fun _ j => 0 < j) fun i j => .int (i % j)) ta tb) (dt (.int (i % j))) := jd_I (D := fun i j => .int (i % j)) h1 h2 hj fun H => dt_int _
theorem jd_fdiv {i j : Int} (h1 : Jd Γ ta (dt (.int i))) (h2 : Jd Γ tb (dt (.int j))) (hj : CDiv i j) : Jd Γ (tOp (rI CDiv fun i j => .int (i / j)) ta tb) (dt (.int (i / j))) := jd_I (D := fun i j => .int (i / j)) h1 h2 hj fun H => dt_int _
theorem jd_mul {i j : Int} (h1 : Jd Γ ta (dt (.int i))) (h2 : Jd Γ tb (dt (.int j))) (hj : CMul i j) : Jd Γ (tOp (rI CMul fun i j => .int (i * j)) ta tb) (dt (.int (i * j))) := jd_I (D := fun i j => .int (i * j)) h1 h2 hj fun H => dt_int _
theorem jd_neg {i : Int} (h1 : Jd Γ ta (dt (.int i))) : Jd Γ (tUn (rU fun i => .int (-i)) ta) (dt (.int (-i))) := fun σ H ty Q k =>
  h1 σ H ty _ fun v H1 e1 p => ⟨i, of_int p, k _ H1 e1 (dt_int _)⟩
theorem jd_addI {i j : Int} (h1 : Jd Γ ta (dt (.int i))) (h2 : Jd Γ tb (dt (.int j))) : Jd Γ (tOp (rAddA K) ta tb) (dt (.int (i + j))) :=
  jd_op h1 h2 fun x y H Q p1 p2 k => by
    rw [of_int p1, of_int p2]
    exact .inl ⟨i, j, rfl, rfl, k _ H (Same.refl H) (dt_int _)⟩
theorem jd_cat (h1 : Jd Γ ta (dt (.tuple ds))) (h2 : Jd Γ tb (dt (.tuple es))) (hl : ds.length + es.length ≤ 1000) : Jd Γ (tOp (rAddA K) ta tb) (dt (.tuple (ds ++ es))) :=
  jd_op h1 h2 fun x y H Q p1 p2 k => by
    obtain ⟨a, xs, rfl, h1, q1⟩ := of_tup p1
    obtain ⟨c, ys, rfl, h2, q2⟩ := of_tup p2
    have hz : xs.length + ys.length ≤ sizeLine := by
      rw [q1.length, q2.length]
      exact Nat.le_of_lt (small1000 hl)
    refine .inr (.inl ⟨a, c, xs, ys, rfl, rfl, SqT.of h1, SqT.of h2, hz, fun e => ?_, fun _ e => ?_, fun _ _ p hp => ?_⟩)
    · have : ds = [] := List.length_eq_zero_iff.mp (by rw [← q1.length, e]; rfl)
      subst this
      exact k _ H (Same.refl H) p2
    · have : es = [] := List.length_eq_zero_iff.mp (by rw [← q2.length, e]; rfl)
      subst this
      rw [List.append_nil] at k
      exact k _ H (Same.refl H) p1
    · have e : Same H (upd H p (.tup (xs ++ ys))) := same_upd hp
      exact k _ _ e (dt_tup upd_same (TpAll.mono e _ _ (q1.append q2)))
theorem jf_cat (h1 : Jd Γ ta (dt (.list ds))) (h2 : Jd Γ tb (dt (.list es))) (hl : ds.length + es.length ≤ 1000) : Jf Γ (tOp (rAddA K) ta tb) (ds ++ es) :=
  jf_op h1 h2 fun x y H Q p1 p2 k => by
    obtain ⟨a, xs, rfl, h1, q1⟩ := of_lst p1
    obtain ⟨c, ys, rfl, h2, q2⟩ := of_lst p2
    have hz : xs.length + ys.length ≤ sizeLine := by
      rw [q1.length, q2.length]
      exact Nat.le_of_lt (small1000 hl)
    refine .inr (.inr ⟨a, c, xs, ys, rfl, rfl, h1, h2, hz, fun p hp => ?_⟩)
    have e : Same H (upd H p (.lst (xs ++ ys))) := same_upd hp
    exact k p _ _ e hp upd_same (TpAll.mono e _ _ (q1.append q2))
theorem jd_inT (h1 : Jd Γ ta (dt d)) (h2 : Jd Γ tb (dt (.tuple ds))) (s1 : SeqAt.shaped d = true) (s2 : SeqAt.shaped (.tuple ds) = true) : Jd Γ (tOp (rInA K w) ta tb) (dt (.bool (ds.any fun z => PyData.eqv z d))) :=
  jd_op h1 h2 fun x y H Q p1 p2 k => .inl ⟨d, ds, Tp.dp _ _ p1, Tp.dp _ _ p2, s1, s2, k _ H (Same.refl H) (by rw [Bool.false_xor]; exact dt_bl _)⟩
theorem jd_notInT (h1 : Jd Γ ta (dt d)) (h2 : Jd Γ tb (dt (.tuple ds))) (s1 : SeqAt.shaped d = true) (s2 : SeqAt.shaped (.tuple ds) = true) : Jd Γ (tOp (rNotInA K w) ta tb) (dt (.bool (!ds.any fun z => PyData.eqv z d))) :=
  jd_op h1 h2 fun x y H Q p1 p2 k => .inl ⟨d, ds, Tp.dp _ _ p1, Tp.dp _ _ p2, s1, s2, k _ H (Same.refl H) (by rw [Bool.true_xor]; exact dt_bl _)⟩
theorem jd_inL (h1 : Jd Γ ta (dt d)) (h2 : Jd Γ tb (dt (.list ds))) (s1 : SeqAt.shaped d = true) (s2 : SeqAt.shaped (.list ds) = true) : Jd Γ (tOp (rInA K w) ta tb) (dt (.bool (ds.any fun z => PyData.eqv z d))) :=
  jd_op h1 h2 fun x y H Q p1 p2 k => .inr (.inl ⟨d, ds, Tp.dp _ _ p1, Tp.dp _ _ p2, s1, s2, k _ H (Same.refl H) (dt_bl _)⟩)
theorem jd_notInL (h1 : Jd Γ ta (dt d)) (h2 : Jd Γ tb (dt (.list ds))) (s1 : SeqAt.shaped d = true) (s2 : SeqAt.shaped (.list ds) = true) : Jd Γ (tOp (rNotInA K w) ta tb) (dt (.bool (!ds.any fun z => PyData.eqv z d))) :=
  jd_op h1 h2 fun x y H Q p1 p2 k => .inr (.inl ⟨d, ds, Tp.dp _ _ p1, Tp.dp _ _ p2, s1, s2, k _ H (Same.refl H) (dt_bl _)⟩)
theorem any_int (s : List Int) (x : Int) : ((s.map PyData.int).any fun z => PyData.eqv z (.int x)) = s.contains x := by
  induction s with
  | nil => rfl
  | cons a s ih =>
    rw [List.map_cons, List.any_cons, ih, List.contains_cons]
    show (PyData.eqv (.int a) (.int x) || _) = _
    rw [show PyData.eqv (.int a) (.int x) = (a == x) by simp only [PyData.eqv], show (a == x) = (x == a) from BEq.comm]
theorem sh_int1 (i : Int) : SeqAt.shaped (.int i) = true := (sh_int (k := 1) i).ok (by decide)
theorem sh_sD1 (s : List Int) : SeqAt.shaped (sD s) = true := (sh_sD (k := 0) s).ok (by decide)
theorem jd_inI {x : Int} {s : List Int} (h1 : Jd Γ ta (dt (.int x))) (h2 : Jd Γ tb (dt (sD s))) : Jd Γ (tOp (rInA K w) ta tb) (dt (.bool (s.contains x))) := (jd_inT h1 h2 (sh_int1 x) (sh_sD1 s)).eq (by rw [any_int])
theorem jd_notInI {x : Int} {s : List Int} (h1 : Jd Γ ta (dt (.int x))) (h2 : Jd Γ tb (dt (sD s))) : Jd Γ (tOp (rNotInA K w) ta tb) (dt (.bool (!s.contains x))) := (jd_notInT h1 h2 (sh_int1 x) (sh_sD1 s)).eq (by rw [any_int])
theorem eqv_ints : ∀ (s t : List Int), PyData.eqvAll (s.map .int) (t.map .int) = decide (s = t)
  | [], [] => by simp [PyData.eqvAll]
  | [], _ :: _ => by simp [PyData.eqvAll]
  | _ :: _, [] => by simp [PyData.eqvAll]
  | a :: s, c :: t => by
    have ih := eqv_ints s t
    simp only [List.map_cons, PyData.eqvAll, PyData.eqv, ih]
    by_cases h : a = c
    · subst h; simp
    · simp [h]
theorem eqv_sD (s t : List Int) : PyData.eqv (sD s) (sD t) = decide (s = t) := by
  show PyData.eqv (.tuple _) (.tuple _) = _
  simp only [PyData.eqv]
  exact eqv_ints s t
theorem jd_eqSet {s t : List Int} (h1 : Jd Γ ta (dt (sD s))) (h2 : Jd Γ tb (dt (sD t))) : Jd Γ (tOp (rEqD K) ta tb) (dt (.bool (decide (s = t)))) := (jd_eqD h1 h2 (sh_sD1 s) (sh_sD1 t)).eq (by rw [eqv_sD])
theorem jd_neSet {s t : List Int} (h1 : Jd Γ ta (dt (sD s))) (h2 : Jd Γ tb (dt (sD t))) : Jd Γ (tOp (rNeD K) ta tb) (dt (.bool (!decide (s = t)))) := (jd_neD h1 h2 (sh_sD1 s) (sh_sD1 t)).eq (by rw [eqv_sD])
theorem jd_eqInt {i j : Int} (h1 : Jd Γ ta (dt (.int i))) (h2 : Jd Γ tb (dt (.int j))) : Jd Γ (tOp (rEqD K) ta tb) (dt (.bool (decide (i = j)))) := (jd_eqD h1 h2 (sh_int1 i) (sh_int1 j)).eq (by simp only [PyData.eqv, Bool.beq_eq_decide_eq])
theorem jd_neInt {i j : Int} (h1 : Jd Γ ta (dt (.int i))) (h2 : Jd Γ tb (dt (.int j))) : Jd Γ (tOp (rNeD K) ta tb) (dt (.bool (!decide (i = j)))) := (jd_neD h1 h2 (sh_int1 i) (sh_int1 j)).eq (by simp only [PyData.eqv, Bool.beq_eq_decide_eq])
/-- an item -/
theorem ix_of {α : Type} {xs : List α} {i : Int} {v : α} (h : atI xs i = some v) : ∃ j, ixN xs.length i = some j ∧ xs[j]? = some v := by
  unfold atI at h
  exact Option.bind_eq_some_iff.mp h
theorem ix_to {α : Type} {xs : List α} {i : Int} {v : α} {j : Nat} (h1 : ixN xs.length i = some j) (h2 : xs[j]? = some v) : atI xs i = some v := by
  unfold atI
  rw [h1]
  exact h2
theorem jd_ixT {i : Int} (h1 : Jd Γ ta (dt (.tuple ds))) (h2 : Jd Γ tb (dt (.int i))) (h : atI ds i = some d) : Jd Γ (tOp (rIxA K) ta tb) (dt d) :=
  jd_op h1 h2 fun x y H Q p1 p2 k => by
    obtain ⟨a, xs, rfl, h1, q1⟩ := of_tup p1
    rw [of_int p2]
    obtain ⟨j, e1, e2⟩ := ix_of h
    obtain ⟨v, e3, p3⟩ := q1.get e2
    exact .inr ⟨a, xs, i, v, rfl, rfl, SqT.of h1, ix_to (by rw [q1.length]; exact e1) e3, k v H (Same.refl H) p3⟩
theorem jd_ixL {i : Int} (h1 : Jd Γ ta (dt (.list ds))) (h2 : Jd Γ tb (dt (.int i))) (h : atI ds i = some d) : Jd Γ (tOp (rIxA K) ta tb) (dt d) :=
  jd_op h1 h2 fun x y H Q p1 p2 k => by
    obtain ⟨a, xs, rfl, h1, q1⟩ := of_lst p1
    rw [of_int p2]
    obtain ⟨j, e1, e2⟩ := ix_of h
    obtain ⟨v, e3, p3⟩ := q1.get e2
    exact .inl ⟨a, xs, i, v, rfl, rfl, SqL.of h1, ix_to (by rw [q1.length]; exact e1) e3, k v H (Same.refl H) p3⟩
theorem atI_map {α β : Type} {f : α → β} {xs : List α} {i : Int} {v : α} (h : atI xs i = some v) : atI (xs.map f) i = some (f v) := by
  obtain ⟨j, e1, e2⟩ := ix_of h
  exact ix_to (by rw [List.length_map]; exact e1) (by rw [List.getElem?_map, e2]; rfl)
/-- len, tuple, all, max -/
def rLenQ (K : PySem.W.Frag) : List V → Hp → VK → Prop := fun xs H Q => ∃ p ys, xs = [.ref p] ∧ (SqL K H p ys ∨ SqT K H p ys) ∧ Q (.int ys.length) H
theorem call_lenQ {X : Cx} : CallR X (.builtin "len") (rLenQ X.K) := call_len_seq
theorem jd_lenT (h : Jd Γ te (dt (.tuple ds))) : Jd Γ (tCB (rLenQ K) (tCons te tNil)) (dt (.int ds.length)) := jd_cb (ja_cons h ja_nil) fun vs H Q p k => by
  match vs, p with
  | [v], p =>
    obtain ⟨a, xs, rfl, h1, q1⟩ := of_tup p.1
    refine ⟨a, xs, rfl, .inr (SqT.of h1), k _ H (Same.refl H) ?_⟩
    rw [q1.length]
    exact dt_int _
theorem jd_lenL (h : Jd Γ te (dt (.list ds))) : Jd Γ (tCB (rLenQ K) (tCons te tNil)) (dt (.int ds.length)) := jd_cb (ja_cons h ja_nil) fun vs H Q p k => by
  match vs, p with
  | [v], p =>
    obtain ⟨a, xs, rfl, h1, q1⟩ := of_lst p.1
    refine ⟨a, xs, rfl, .inl (SqL.of h1), k _ H (Same.refl H) ?_⟩
    rw [q1.length]
    exact dt_int _
theorem jd_lenS {s : List Int} (h : Jd Γ te (dt (sD s))) : Jd Γ (tCB (rLenQ K) (tCons te tNil)) (dt (.int s.length)) := (jd_lenT h).eq (by rw [List.length_map])
def rTupQ (K : PySem.W.Frag) : List V → Hp → VK → Prop := fun xs H Q => ∃ p ys, xs = [.ref p] ∧ ((SqL K H p ys ∧ ∀ l, H l = none → Q (.ref l) (upd H l (.tup ys))) ∨ (SqT K H p ys ∧ Q (.ref p) H))
theorem call_tupQ {X : Cx} : CallR X (.type "tuple") (rTupQ X.K) := call_tuple_of
theorem jd_tupOf (h : Jd Γ te (dt (.list ds))) : Jd Γ (tCB (rTupQ K) (tCons te tNil)) (dt (.tuple ds)) := jd_cb (ja_cons h ja_nil) fun vs H Q p k => by
  match vs, p with
  | [v], p =>
    obtain ⟨a, xs, rfl, h1, q1⟩ := of_lst p.1
    refine ⟨a, xs, rfl, .inl ⟨SqL.of h1, fun l hl => ?_⟩⟩
    have e : Same H (upd H l (.tup xs)) := same_upd hl
    exact k _ _ e (dt_tup upd_same (TpAll.mono e _ _ q1))
theorem bools_of {H : Hp} : ∀ {bs : List Bool} {vs : List V}, TpAll H (bs.map PyData.bool) vs → vs = bs.map V.bl
  | [], vs, h => ta_nil.mp h
  | c :: bs, vs, h => by
    obtain ⟨v, r, rfl, h2, h3⟩ := ta_cons.mp h
    rw [tp_bool.mp h2, bools_of h3]
    rfl
theorem jd_all {bs : List Bool} (h : Jd Γ te (dt (.list (bs.map .bool)))) : Jd Γ (tCB (rAll K) (tCons te tNil)) (dt (.bool (bs.all id))) := jd_cb (ja_cons h ja_nil) fun vs H Q p k => by
  match vs, p with
  | [v], p =>
    obtain ⟨a, xs, rfl, h1, q1⟩ := of_lst p.1
    refine ⟨a, bs, rfl, SqL.of (by rw [h1, bools_of q1]), k _ H (Same.refl H) (dt_bl _)⟩
theorem jd_max {ns : List Int} {m : Int} (h : Jd Γ te (dt (.list (ns.map .int)))) (hm : m ∈ ns) (hx : ∀ y ∈ ns, y ≤ m) : Jd Γ (tCB (rMax K) (tCons te tNil)) (dt (.int m)) := jd_cb (ja_cons h ja_nil) fun vs H Q p k => by
  match vs, p with
  | [v], p =>
    obtain ⟨a, xs, rfl, h1, q1⟩ := of_lst p.1
    refine ⟨a, ns, rfl, SqL.of (by rw [h1, TpAll.ints.mp q1]), List.length_pos_of_mem hm, fun z hz hy => ?_⟩
    have : z = m := Int.le_antisymm (hx z hz) (hy m hm)
    rw [this]
    exact k _ H (Same.refl H) (dt_int _)
theorem of_non {H : Hp} {v : V} (h : (dt .none).P v H) : v = .non := (tp_none (H := H)).mp h
/-- is None -/
def isNo : PyData → Bool
  | .none => true
  | _ => false
theorem no_dec {H : Hp} : ∀ {d : PyData} {v : V}, Tp H d v → decide (v = .non) = isNo d
  | .none, v, h => by rw [tp_none.mp h]; rfl
  | .bool b, v, h => by rw [tp_bool.mp h]; rfl
  | .int i, v, h => by rw [tp_int.mp h]; rfl
  | .str x, v, h => by rw [tp_str.mp h]; rfl
  | .tuple ds, v, h => by obtain ⟨a, xs, rfl, _⟩ := tp_tuple.mp h; rfl
  | .list ds, v, h => by obtain ⟨a, xs, rfl, _⟩ := tp_list.mp h; rfl
  | .dict ds, v, h => by rw [Tp] at h; exact h.elim
def rIsN0 : R2 := fun x y H Q => y = .non ∧ Q (.bl (decide (x = .non))) H
def rNotN0 : R2 := fun x y H Q => y = .non ∧ Q (.bl (!decide (x = .non))) H
theorem op_isN0 {X : Cx} : OpR X (compareOp .Is) rIsN0 := op_isN
theorem op_notN0 {X : Cx} : OpR X (compareOp .IsNot) rNotN0 := op_notN
theorem jd_isN (h : Jd Γ ta (dt d)) : Jd Γ (tOp rIsN0 ta (tC .non)) (dt (.bool (isNo d))) := jd_op h jd_non fun x y H Q p1 p2 k => ⟨of_non p2, by rw [no_dec p1]; exact k _ H (Same.refl H) (dt_bl _)⟩
theorem jd_notN (h : Jd Γ ta (dt d)) : Jd Γ (tOp rNotN0 ta (tC .non)) (dt (.bool (!isNo d))) := jd_op h jd_non fun x y H Q p1 p2 k => ⟨of_non p2, by rw [no_dec p1]; exact k _ H (Same.refl H) (dt_bl _)⟩
/-- isinstance -/
def tyT (n : String) : VT := ⟨fun v _ => v = .ty n, fun _ h => h⟩
theorem jd_ty {n : String} : Jd Γ (tC (.ty n)) (tyT n) := jd_c fun H => rfl
theorem jd_isi {n : String} (ty : ∀ (v : V) (H : Hp), Tp H d v → ∃ t, TyX K H v (.type t) ∧ kitB t n = some b) (h : Jd Γ ta (dt d)) (h2 : Jd Γ tb (tyT n)) : Jd Γ (tCB (rIsi K) (tCons ta (tCons tb tNil))) (dt (.bool b)) := jd_cb (ja_cons h (ja_cons h2 ja_nil)) fun vs H Q p k => by
  match vs, p with
  | [v, c], p =>
    obtain ⟨t, h1, h2⟩ := ty v H p.1
    have e : c = .ty n := p.2.1
    subst e
    exact ⟨v, .ty n, .type t, .type n, b, rfl, .ty n, h1, kit_ty h2, k _ H (Same.refl H) (dt_bl _)⟩
theorem jd_isInt {i : Int} (h : Jd Γ ta (dt (.int i))) (h2 : Jd Γ tb (tyT "int")) : Jd Γ (tCB (rIsi K) (tCons ta (tCons tb tNil))) (dt (.bool true)) := jd_isi (fun v H p => ⟨"int", by rw [tp_int.mp p]; exact .base (.int i), by decide +kernel⟩) h h2
theorem jd_isBool {i : Int} (h : Jd Γ ta (dt (.int i))) (h2 : Jd Γ tb (tyT "bool")) : Jd Γ (tCB (rIsi K) (tCons ta (tCons tb tNil))) (dt (.bool false)) := jd_isi (fun v H p => ⟨"int", by rw [tp_int.mp p]; exact .base (.int i), by decide +kernel⟩) h h2
theorem jd_isTup (h : Jd Γ ta (dt (.tuple ds))) (h2 : Jd Γ tb (tyT "tuple")) : Jd Γ (tCB (rIsi K) (tCons ta (tCons tb tNil))) (dt (.bool true)) := jd_isi (fun v H p => ⟨"tuple", by obtain ⟨a, xs, rfl, h1, _⟩ := tp_tuple.mp p; exact .base (.tup h1), by decide +kernel⟩) h h2
/-- chains of comparisons -/
theorem jd_chain {r r' : R2} {tc : TE} {A B C : VT} {b c : Bool} (h1 : Jd Γ ta A) (h2 : Jd Γ tb B) (hr : ∀ x y H (Q : VK), A.P x H → B.P y H → Q (.bl b) H → r x y H Q) (h3 : b = true → Jd Γ tc C) (hr' : b = true → ∀ y z H (Q : VK), B.P y H → C.P z H → Q (.bl c) H → r' y z H Q) :
    Jd Γ (tChain r r' ta tb tc) (dt (.bool (b && c))) := fun σ H ty Q k => h1 σ H ty _ fun x H1 e1 p1 => h2 σ H1 (ty.mono e1) _ fun y H2 e2 p2 => hr x y H2 _ (A.mono e2 p1) p2 ⟨b, rfl, by
  cases b with
  | true =>
    refine iteT (h3 rfl σ H2 ((ty.mono e1).mono e2) _ fun z H3 e3 p3 => hr' rfl y z H3 _ (B.mono e3 p2) p3 (k _ H3 ((e1.trans e2).trans e3) ?_))
    rw [Bool.true_and]
    exact dt_bl _
  | false =>
    refine iteF (k _ H2 (e1.trans e2) ?_)
    rw [Bool.false_and]
    exact dt_bl _⟩
theorem r_lt {i j : Int} {x y : V} {H : Hp} {Q : VK} (p1 : (dt (.int i)).P x H) (p2 : (dt (.int j)).P y H) (k : Q (.bl (decide (i < j))) H) : rI0 (fun i j => .bl (decide (i < j))) x y H Q := by
  rw [of_int p1, of_int p2]; exact ⟨i, j, rfl, rfl, k⟩
theorem r_le {i j : Int} {x y : V} {H : Hp} {Q : VK} (p1 : (dt (.int i)).P x H) (p2 : (dt (.int j)).P y H) (k : Q (.bl (decide (i ≤ j))) H) : rI0 (fun i j => .bl (decide (i ≤ j))) x y H Q := by
  rw [of_int p1, of_int p2]; exact ⟨i, j, rfl, rfl, k⟩
theorem jd_ltlt {tc : TE} {i j l : Int} (h1 : Jd Γ ta (dt (.int i))) (h2 : Jd Γ tb (dt (.int j))) (h3 : Jd Γ tc (dt (.int l))) :
    Jd Γ (tChain (rI0 fun i j => .bl (decide (i < j))) (rI0 fun i j => .bl (decide (i < j))) ta tb tc) (dt (.bool (decide (i < j) && decide (j < l)))) := jd_chain h1 h2 (fun x y H Q p1 p2 k => r_lt p1 p2 k) (fun _ => h3) fun _ x y H Q p1 p2 k => r_lt p1 p2 k
theorem jd_lelt {tc : TE} {i j l : Int} (h1 : Jd Γ ta (dt (.int i))) (h2 : Jd Γ tb (dt (.int j))) (h3 : Jd Γ tc (dt (.int l))) :
    Jd Γ (tChain (rI0 fun i j => .bl (decide (i ≤ j))) (rI0 fun i j => .bl (decide (i < j))) ta tb tc) (dt (.bool (decide (i ≤ j) && decide (j < l)))) := jd_chain h1 h2 (fun x y H Q p1 p2 k => r_le p1 p2 k) (fun _ => h3) fun _ x y H Q p1 p2 k => r_lt p1 p2 k
theorem jd_lele {tc : TE} {i j l : Int} (h1 : Jd Γ ta (dt (.int i))) (h2 : Jd Γ tb (dt (.int j))) (h3 : Jd Γ tc (dt (.int l))) :
    Jd Γ (tChain (rI0 fun i j => .bl (decide (i ≤ j))) (rI0 fun i j => .bl (decide (i ≤ j))) ta tb tc) (dt (.bool (decide (i ≤ j) && decide (j ≤ l)))) := jd_chain h1 h2 (fun x y H Q p1 p2 k => r_le p1 p2 k) (fun _ => h3) fun _ x y H Q p1 p2 k => r_le p1 p2 k
end

/-! ### choosers -/
def keyOf (s : List Int) : List Key := s.map Sum.inl
theorem keyOf_kV (s : List Int) : (keyOf s).map kV = s.map V.int := by
  unfold keyOf
  rw [List.map_map]
  rfl
theorem keyOf_inj {s t : List Int} (h : keyOf s = keyOf t) : s = t := by
  unfold keyOf at h
  exact List.map_inj_right (fun a b e => Sum.inl.inj e) |>.mp h
/-- the constants of the top: where the class stands; the table of press_in_order's code object, the name of what it tells -/
structure Cn where
  C : Addr
  P : Addr
def Tab (c : Cn) (H : Hp) : Prop := LamX.TabS H c.P lamQ
theorem Tab.mono {c : Cn} {H H' : Hp} (e : Same H H') (h : Tab c H) : Tab c H' := e.tab _ h
/-- data, and the table is known -/
def dtT (c : Cn) (d : PyData) : VT := ⟨fun v H => Tp H d v ∧ Tab c H, fun e h => ⟨Tp.mono e d _ h.1, h.2.mono e⟩⟩
/-- what an instance at v knows of the chooser c -/
theorem Same.rd {H H' : Hp} (e : Same H H') {a : Addr} {kvs : List (List Key × V)} (h : Rd H a (.dT kvs)) : Rd H' a (.dT kvs) := h.elim (fun z => .inl (e.get z)) fun ⟨o, z⟩ => .inr ⟨o, e.get z⟩
def chP (cn : Cn) (c : Ch) (v : V) (H : Hp) : Prop := ∃ (a dx tb pl : Addr) (fs : List (Str × V)) (kvs : List (List Key × V)), v = .ref a ∧ H a = some (.ins cn.C dx fs) ∧ fs.lookup ("table" : Str) = some (V.ref tb) ∧ fs.lookup ("places" : Str) = some (V.ref pl) ∧
  Rd H tb (.dT kvs) ∧ (∀ s, IsSet c.n s → ∃ p, valV kvs (keyOf s) = some (.ref p) ∧ H p = some (.tup ((c.f s).map V.int))) ∧ H pl = some (.tup ((rgI 0 c.n).map V.int)) ∧ Tab cn H
def cho (cn : Cn) (c : Ch) : VT := ⟨chP cn c, fun {v H H'} e h => by
  obtain ⟨a, dx, tb, pl, fs, kvs, h1, h2, h3, h4, h5, h6, h7, h8⟩ := h
  exact ⟨a, dx, tb, pl, fs, kvs, h1, e.get h2, h3, h4, e.rd h5, fun s hs => by obtain ⟨p, q1, q2⟩ := h6 s hs; exact ⟨p, q1, e.get q2⟩, e.get h7, h8.mono e⟩⟩
/-- what the top has written, as the bodies need it -/
structure Top (K : PySem.W.Frag) (mg : Str → Option Value) (C : Cn) : Prop where
  isinstance_ : mg "isinstance" = none
  int_ : mg "int" = none
  bool_ : mg "bool" = none
  tuple_ : mg "tuple" = none
  len_ : mg "len" = none
  range_ : mg "range" = none
  sorted_ : mg "sorted" = none
  set_ : mg "set" = none
  all_ : mg "all" = none
  enumerate_ : mg "enumerate" = none
  list_ : mg "list" = none
  zip_ : mg "zip" = none
  dict_ : mg "dict" = none
  max_ : mg "max" = none
  most : ∃ u, mg "CHOOSER_MOST" = some u ∧ RelV (.int 6) u
  cls : Cls K C.C
  nOffers : NoAttr K C.C "offers"
  nPicks : NoAttr K C.C "picks"
  nTable : NoAttr K C.C "table"
  nPlaces : NoAttr K C.C "places"
section
variable {Γ : Gm} {ta tb te : TE} {K : PySem.W.Frag} {mg : Str → Option Value} {C : Cn} {c : Ch} {s : List Int}
/-- near.table[some] -/
theorem jd_table (T : Top K mg C) (h1 : Jd Γ ta (cho C c)) (h2 : Jd Γ tb (dt (sD s))) (hs : IsSet c.n s) : Jd Γ (tDGet (tFld K ta "table") tb) (dt (sD (c.f s))) := fun σ H ty Q k =>
  h1 σ H ty _ fun x H1 e1 p1 => by
    obtain ⟨a, dx, tb', pl, fs, kvs, rfl, q2, q3, q4, q5, q6, q7, q8⟩ := p1
    refine ⟨a, C.C, dx, fs, .ref tb', rfl, q2, T.cls, T.nTable, q3, ?_⟩
    refine h2 σ H1 (ty.mono e1) _ fun y H2 e2 p2 => ?_
    obtain ⟨b, rfl, hb⟩ := tp_sD.mp p2
    obtain ⟨p, g1, g2⟩ := q6 s hs
    refine ⟨tb', .ref p, rfl, .inr ⟨kvs, keyOf s, b, e2.rd q5, rfl, ?_, g1.symm⟩, k _ H2 (e1.trans e2) (tp_sD.mpr ⟨p, rfl, e2.get g2⟩)⟩
    rw [keyOf_kV]
    exact hb
/-- len(chooser) -/
def rLenO (C : Addr) (sp : Sp) : List V → Hp → VK → Prop := fun xs H Q => ∃ a dx fs, xs = [.ref a] ∧ H a = some (.ins C dx fs) ∧ sp [.ref a] H (fun v H' => ∃ n : Int, v = .int n ∧ 0 ≤ n ∧ n < 2 ^ 63 ∧ Q (.int n) H') E0
theorem call_lenO {X : Cx} {C f : Addr} {sp : Sp} {k : Nat} {fd : FuncData} {ps : List Str} (m : Meth X.K C "__len__" f) (F : FnOk X.prog X.w X.K X.mg X.base L2.CX0 k f fd ps sp) (hr : Room (k + 1) X.A) (hb : Binds X.K fd ps []) : CallR X (.builtin "len") (rLenO C sp) := by
  intro pins s σ H xs us Q I r h
  obtain ⟨a, dx, fs, rfl, ha, h⟩ := h
  obtain ⟨u, rfl, ru⟩ := vals1 r
  cases ru
  obtain ⟨mA, O, _, _, _, _⟩ := ins_get I.hok ha
  obtain ⟨od, J, _⟩ := O.look
  refine Calls.call_function_entry kind_len plain_len entry_len (args_len1 _) ?_
  unfold Builtin.«len»
  refine wpAny_bind (m := oneArg "len" _) (wpAny_pure ?_)
  have hl : ([Value.ref a] ++ []).length = ps.length := (F.len _ _ _ _ h)
  refine wpAny_bind (m := callSpecial? (.ref a) (Str.ofString "__len__")) (PySem.W.special_fn I.kIn J m.at_ (beq_iff_eq.mp m.fn) (wpAny_call (codeAny_mono (F.run X.A.in1 X.stack s H ⟨[.ref a], []⟩ ([Value.ref a] ++ []) [V.ref a] _ E0 hr.in1 I.env0.in1 (hb _ [.ref a] I.kIn hl) (Paired.cons rfl Paired.nil) h) fun r s' hq => ?_)))
  cases r with
  | error er => exact False.elim hq
  | ok fl =>
    cases fl with
    | ret u =>
      obtain ⟨v, H', I3, rv, n, rfl, h0, h1, q3⟩ := I.after hq
      obtain ⟨t, rfl⟩ := rv
      refine wpAny_bind (wpAny_holding (wpAny_pure ?_))
      refine wpAny_bind (wpAny_letGo ?_)
      show wpAny _ _ (if n < 0 then _ else _) _ _ _
      rw [if_neg (by omega)]
      show wpAny _ _ (if n ≥ 2 ^ 63 then _ else _) _ _ _
      rw [if_neg (by omega)]
      exact wpAny_bind (wpAny_mkInt (wpAny_pure ⟨_, rfl, ⟨.int n, H', I3.tok _, ⟨_, rfl⟩, q3⟩⟩))
    | next => exact False.elim hq
    | brk => exact False.elim hq
    | cont => exact False.elim hq
end
end Ost
set_option Elab.async false
set_option linter.all false
set_option maxRecDepth 100000
set_option maxHeartbeats 4000000
/-! K4: defs of the text; weakening; the length of a chooser. -/
namespace Ost
open PySem PySem.Spec PyProof.Rows L2
open C8 (Cal pe_c Mak pe_mk Met pe_gc)

theorem hu65 {k : Nat} {A : Around} (hr : Room k A) : A.units + 65 < cLine := by have := hr.un; omega
/-- slots forgotten -/
def Gle : Gm → Gm → Prop
  | [], [] => True
  | _ :: a, none :: b => Gle a b
  | x :: a, some t :: b => x = some t ∧ Gle a b
  | _, _ => False
theorem Gle.ty : ∀ {Γ Γ' : Gm} {σ : L2.St} {H : Hp}, Gle Γ Γ' → Ty Γ σ H → Ty Γ' σ H := by
  intro Γ Γ' σ H g ty
  have key : ∀ {Γ Γ' : Gm}, Gle Γ Γ' → Γ'.length = Γ.length ∧ ∀ (i : Nat) (t : VT), Γ'[i]? = some (some t) → Γ[i]? = some (some t) := by
    intro Γ
    induction Γ with
    | nil =>
      intro Γ' g
      cases Γ' with
      | nil => exact ⟨rfl, fun i t h => by simp at h⟩
      | cons y b => exact g.elim
    | cons x a ih =>
      intro Γ' g
      cases Γ' with
      | nil => exact g.elim
      | cons y b =>
        cases y with
        | none =>
          obtain ⟨h1, h2⟩ := ih (show Gle a b from g)
          refine ⟨by rw [List.length_cons, List.length_cons, h1], fun i t h => ?_⟩
          cases i with
          | zero => simp at h
          | succ i => exact h2 i t (by simpa using h)
        | some u =>
          obtain ⟨e, g'⟩ := (show x = some u ∧ Gle a b from g)
          obtain ⟨h1, h2⟩ := ih g'
          refine ⟨by rw [List.length_cons, List.length_cons, h1], fun i t h => ?_⟩
          cases i with
          | zero => rw [e]; simpa using h
          | succ i => exact h2 i t (by simpa using h)
  obtain ⟨h1, h2⟩ := key g
  exact ⟨by rw [h1, ty.len], fun i t h => ty.at_ i t (h2 i t h)⟩
section
variable {Γ Γ1 Γ2 : Gm} {s1 : TS} {C C2 : Prop} {R : VT}
theorem js_weak (h : Js Γ s1 Γ1 C R) (g : Gle Γ1 Γ2) : Js Γ s1 Γ2 C R := fun σ H ty D k r => h σ H ty D (fun c σ2 H2 e2 ty2 => k c σ2 H2 e2 (g.ty ty2)) r
theorem js_end (h : Js Γ s1 Γ1 C R) (i : C → C2) (g : Gle Γ1 Γ2) : Js Γ s1 Γ2 C2 R := js_weak (h.imp i) g
end
/-- a def by its body's reading -/
theorem fn_hand {P : Program} {w : World} {K : PySem.W.Frag} {mg : Str → Option Value} {base : Heap} {α : Type} {S : Sg α} {x qual : Str} {st : Stmt} {f : Addr} {fd : FuncData} {N ps : List Str} {k : Nat}
    (F : FunD K x qual (defArgs st) (defBody st) (defScope st) [] [] f fd) (Sc : FnScope N ps (defScope st)) (hl : ∀ a, (S.ts a).length = ps.length)
    (hbody : ∀ (cdv : Value) (A : Around) (outer : List Env) (s : Shared) (H : Hp) (E : XK), Room k (A.deeper (envOfC qual (defScope st) s.heap.objs.size f cdv)) →
      ∃ t, PSs (cxOf L2.CX0 P w K mg base N qual (defScope st) f cdv A outer s H E) (defBody st) t ∧
        ∀ vs a, S.dom a → Fits (S.ts a) vs H → ∀ Q : VK, (∀ v H', Same H H' → (S.R a).P v H' → Q v H') → t { nx := fun _ H' => Q .non H', rt := Q } (L2.start N vs) H) :
    FnOk P w K mg base L2.CX0 (k + 1) f fd ps S.sp := by
  refine F.ok Sc (fun vs H Q E h => ?_) (fun cdv A outer s H vs Q E hr h => ?_)
  · obtain ⟨a, _, ha, _⟩ := h
    rw [ha.length, hl]
  · obtain ⟨a, hd, ha, hq⟩ := h
    obtain ⟨t, ht, hj⟩ := hbody cdv A outer s H E hr
    exact ⟨t, ht, hj vs a hd ha Q hq⟩
/-- Chooser.__len__ -/
def sg_ch_len (C : Cn) : Sg Ch := ⟨fun c => c.n < 1000, fun c => [cho C c], fun c => dt (.int c.n)⟩
def sp_ch_len (C : Cn) : Sp := (sg_ch_len C).sp
structure LenOk (P : Program) (w : World) (K : PySem.W.Frag) (mg : Str → Option Value) (base : Heap) (C : Cn) : Prop where
  ex : ∃ (f : Addr) (fd : FuncData) (ps : List Str), Meth K C.C "__len__" f ∧ FnOk P w K mg base L2.CX0 1 f fd ps (sp_ch_len C) ∧ Binds K fd ps []
theorem call_lenC {X : Cx} {C : Cn} (L : LenOk X.prog X.w X.K X.mg X.base C) (hr : Room 2 X.A) : CallR X (.builtin "len") (rLenO C.C (sp_ch_len C)) := by
  obtain ⟨f, fd, ps, m, F, b⟩ := L.ex
  exact call_lenO m F hr b
theorem fits1 {t : VT} {H : Hp} : ∀ {vs : List V}, Fits [t] vs H → ∃ v, vs = [v] ∧ t.P v H
  | [], h => h.elim
  | [v], h => ⟨v, rfl, h.1⟩
  | _ :: _ :: _, h => h.2.elim
theorem jd_lenCh {Γ : Gm} {te : TE} {C : Cn} {c : Ch} (h : Jd Γ te (cho C c)) (hn : c.n < 1000) : Jd Γ (tCB (rLenO C.C (sp_ch_len C)) (tCons te tNil)) (dt (.int c.n)) := jd_cb (ja_cons h ja_nil) fun vs H Q p k => by
  obtain ⟨v, rfl, pv⟩ := fits1 p
  have q1 : chP C c v H := pv
  obtain ⟨a, dx, tb, pl, fs, kvs, rfl, h2, rest⟩ := q1
  refine ⟨a, dx, fs, rfl, h2, c, hn, ⟨pv, trivial⟩, fun v H' e q => ?_⟩
  rw [of_int q]
  exact ⟨c.n, rfl, by omega, by omega, k _ H' e (dt_int _)⟩
end Ost
set_option Elab.async false
set_option linter.all false
set_option maxRecDepth 100000
set_option maxHeartbeats 4000000
/-! K5: sets of ints made of tuples, sorted of sets and of data. -/
namespace Ost
open PySem PySem.Spec PyProof.Rows L2
open C8 (Cal pe_c Mak pe_mk Met pe_gc)
open PySem.W (EachIs AllAlike Sortable dataLe alike alikeAll)

/-! ### set(t) -/
def rSetT (K : PySem.W.Frag) (w : World) : List V → Hp → VK → Prop := fun xs H Q => ∃ (p : Addr) (ns : List Int), xs = [.ref p] ∧ SqT K H p (ns.map V.int) ∧ ns.length ≤ 1000 ∧
  ∀ a c, H a = none → c ≤ ns.length → Q (.ref a) (upd H a (SetO w a (fun j => decide (j ∈ ns)) c))
theorem call_setI {X : Cx} (hc : X.calm = true) : CallR X (.type "set") (rSetT X.K X.w) := by
  intro pins s σ H xs us Q I r h
  obtain ⟨p, ns, rfl, hs, hl, q⟩ := h
  obtain ⟨u, rfl, ru⟩ := vals1 r
  cases ru
  obtain ⟨its, rv, pt, hz⟩ := I.tuple hs
  refine call_set_tupI ns (I.ok.hd hc) (show s.heap.IsTuple p its.toArray from pt) (by simpa using ints_of_vals rv) (by unfold scanBound; omega) fun h' tk c R hc' hk => ?_
  exact ⟨.ref _, upd H s.heap.objs.size (SetO X.w s.heap.objs.size (fun j => decide (j ∈ ns)) c), I.laid (t' := tk) hk (Nat.le_refl _) (setO_new R), rfl, q _ c (I.hok.fresh (Nat.le_refl _)) hc'⟩
/-- a set of the ints of a list -/
def setT (w : World) (ns : List Int) : VT := ⟨fun v H => ∃ a c, v = .ref a ∧ H a = some (SetO w a (fun j => decide (j ∈ ns)) c) ∧ c ≤ ns.length, fun e h => by
  obtain ⟨a, c, h1, h2, h3⟩ := h
  exact ⟨a, c, h1, e.get h2, h3⟩⟩

/-! ### sorted of data -/
theorem each_vals {H : Hp} : ∀ {ds : List PyData} {us : List V} {its : List Value}, TpAll H ds us → Vals us its → EachIs (fun v d => ∃ x, RelV x v ∧ Tp H d x) its ds
  | [], us, its, h, r => by
    rw [ta_nil] at h
    subst h
    cases r
    exact .nil
  | d :: ds, us, its, h, r => by
    obtain ⟨v, vs, rfl, h1, h2⟩ := ta_cons.mp h
    cases r with
    | cons r1 r2 => exact .cons ⟨v, r1, h1⟩ (each_vals h2 r2)
theorem vals_each {H : Hp} : ∀ {ds : List PyData} {its : List Value}, EachIs (fun v d => ∃ x, RelV x v ∧ Tp H d x) its ds → ∃ us, Vals us its ∧ TpAll H ds us
  | [], its, h => by cases h; exact ⟨[], .nil, TpAll.nil⟩
  | d :: ds, its, h => by
    cases h with
    | cons h1 h2 =>
      obtain ⟨x, r, t⟩ := h1
      obtain ⟨us, r2, t2⟩ := vals_each h2
      exact ⟨x :: us, .cons r r2, TpAll.cons t t2⟩
def rSortD : List V → Hp → VK → Prop := fun vs H Q => ∃ (a : Addr) (us : List V) (ds : List PyData), vs = [.ref a] ∧ H a = some (.lst us) ∧ TpAll H ds us ∧ AllAlike ds ∧ Sortable ds ∧ (∀ d ∈ ds, d.depth ≤ 60) ∧
  ∀ us' p, H p = none → TpAll H (ds.mergeSort (dataLe false id)) us' → Q (.ref p) (upd H p (.lst us'))
theorem cr_sortD {X : Cx} (hu : X.A.units + 65 < cLine) : CallR X (.builtin "sorted") rSortD := by
  intro pins s σ H vs ws Q I r h
  obtain ⟨a, us, ds, rfl, ha, ht, hal, hso, hde, q⟩ := h
  obtain ⟨u, rfl, ru⟩ := vals1 r
  cases ru
  obtain ⟨its, rv, hl, hz⟩ := I.list (SqL.of ha)
  have e := each_vals ht rv
  have hlen : us.length = ds.length := ht.length
  refine PySem.W.sorted_data (enc := id) (R := fun v d => ∃ x, RelV x v ∧ Tp H d x) hl.isList e (e.mono fun v d ⟨x, r1, t1⟩ => Dp.reads I d x v (Tp.dp _ _ t1) r1) (by rw [List.map_id]; exact hal) (by rw [List.map_id]; exact hso) (by rw [← hlen]; exact hz) (fun d hd => by have := hde d hd; show X.A.units + 2 + d.depth < cLine; omega) fun out ho eo => ?_
  obtain ⟨us', r2, t2⟩ := vals_each eo
  obtain ⟨ep, hep⟩ := PyProof.Rows.sortedAll_at s.heap its out.toArray
  have hl2 : us'.length ≤ sizeLine := by rw [r2.length, ho, ← hlen]; exact hz
  have hf : H (s.heap.objs.size + 1) = none := I.hok.fresh (Nat.le_succ _)
  exact ⟨.ref (s.heap.objs.size + 1), upd H (s.heap.objs.size + 1) (.lst us'), I.laid (t' := s.toks) (fun _ _ => PyProof.Rows.sortedAll_old) (Nat.le_succ _) ⟨hl2, out, ep, r2, hep⟩, rfl, q us' _ hf t2⟩
def rSortA (w : World) : List V → Hp → VK → Prop := fun xs H Q => rSortedSet w xs H Q ∨ rSortD xs H Q
theorem cr_sortedA {X : Cx} (hc : X.calm = true) (hu : X.A.units + 65 < cLine) : CallR X (.builtin "sorted") (rSortA X.w) := (cr_sortedSet hc).or (cr_sortD hu)
section
variable {Γ : Gm} {te : TE} {K : PySem.W.Frag} {w : World} {s : List Int} {ds : List PyData}
theorem jd_set (h : Jd Γ te (dt (sD s))) (hl : s.length ≤ 1000) : Jd Γ (tCB (rSetT K w) (tCons te tNil)) (setT w s) := jd_cb (ja_cons h ja_nil) fun vs H Q p k => by
  match vs, p with
  | [v], p =>
    obtain ⟨a, rfl, h1⟩ := tp_sD.mp p.1
    refine ⟨a, s, rfl, SqT.of h1, hl, fun b c hb hc => ?_⟩
    exact k _ _ (same_upd hb) ⟨b, c, rfl, upd_same, hc⟩
theorem jf_sortSet (h : Jd Γ te (setT w s)) (hl : s.length < 64) : Jf Γ (tCB (rSortA w) (tCons te tNil)) ((canon s).map .int) := jf_cb (ja_cons h ja_nil) fun vs H Q p k => by
  match vs, p with
  | [v], p =>
    obtain ⟨a, c, rfl, h1, h2⟩ := p.1
    refine .inl ⟨a, _, c, rfl, h1, by omega, fun ns l h3 h4 h5 h6 => ?_⟩
    have : ns = canon s := asc_ext h3 (asc_canon s) fun x => by rw [h4 x, mem_canon, decide_eq_true_eq]
    subst this
    exact k l _ _ (same_upd h6) h6 upd_same (TpAll.ints.mpr rfl)
theorem jf_sortD (h : Jd Γ te (dt (.list ds))) (h1 : AllAlike ds) (h2 : Sortable ds) (h3 : ∀ d ∈ ds, d.depth ≤ 60) : Jf Γ (tCB (rSortA w) (tCons te tNil)) (ds.mergeSort (dataLe false id)) := jf_cb (ja_cons h ja_nil) fun vs H Q p k => by
  match vs, p with
  | [v], p =>
    obtain ⟨a, xs, rfl, q1, q2⟩ := of_lst p.1
    refine .inr ⟨a, xs, ds, rfl, q1, q2, h1, h2, h3, fun us l hl t => ?_⟩
    exact k l us _ (same_upd hl) hl upd_same (TpAll.mono (same_upd hl) _ _ t)
end
end Ost
set_option Elab.async false
set_option linter.all false
set_option maxRecDepth 100000
set_option maxHeartbeats 4000000
/-! K6: lists of values of whatever types; more short words. -/
namespace Ost
open PySem PySem.Spec PyProof.Rows L2
open C8 (Cal pe_c Mak pe_mk Met pe_gc)
def vlT (ts : List VT) : VT := ⟨fun v H => ∃ l vs, v = .ref l ∧ H l = some (.lst vs) ∧ Fits ts vs H, fun e h => by
  obtain ⟨l, vs, h1, h2, h3⟩ := h
  exact ⟨l, vs, h1, e.get h2, h3.mono e⟩⟩
theorem Fits.get : ∀ {ts : List VT} {vs : List V} {H : Hp} {i : Nat} {t : VT}, Fits ts vs H → ts[i]? = some t → ∃ v, vs[i]? = some v ∧ t.P v H
  | [], [], _, i, t, _, e => by simp at e
  | u :: ts, v :: vs, _, 0, t, h, e => by
    have e : u = t := by simpa using e
    subst e
    exact ⟨v, rfl, h.1⟩
  | u :: ts, v :: vs, _, i + 1, t, h, e => by
    obtain ⟨w, h1, h2⟩ := Fits.get (i := i) h.2 (by simpa using e)
    exact ⟨w, by simpa using h1, h2⟩
  | [], _ :: _, _, _, _, h, _ => h.elim
  | _ :: _, [], _, _, _, h, _ => h.elim
section
variable {Γ : Gm} {ta tb tl : TE} {tg : TA} {K : PySem.W.Frag} {ts : List VT} {t : VT} {α : Type} {xs : List α} {Y : α → VT}
theorem jd_lstV (h : Ja Γ tg ts) (hl : ts.length ≤ 1000) : Jd Γ (tLst tg) (vlT ts) := fun σ H ty Q k =>
  h σ H ty _ fun vs H1 e1 p1 => by
    refine ⟨by rw [p1.length]; exact Nat.le_of_lt (small1000 hl), fun p hn => ?_⟩
    have e2 : Same H1 (upd H1 p (.lst vs)) := same_upd hn
    exact k _ _ (e1.trans e2) ⟨p, vs, rfl, upd_same, p1.mono e2⟩
theorem jd_ixV {i : Int} (h1 : Jd Γ ta (vlT ts)) (h2 : Jd Γ tb (dt (.int i))) (h : atI ts i = some t) : Jd Γ (tOp (rIxA K) ta tb) t :=
  jd_op h1 h2 fun x y H Q p1 p2 k => by
    obtain ⟨a, vs, rfl, h1, q1⟩ := p1
    rw [of_int p2]
    obtain ⟨j, e1, e2⟩ := ix_of h
    obtain ⟨v, e3, p3⟩ := q1.get e2
    exact .inl ⟨a, vs, i, v, rfl, rfl, SqL.of h1, ix_to (by rw [q1.length]; exact e1) e3, k v H (Same.refl H) p3⟩
theorem ji_vl (h : Jd Γ tl (vlT (xs.map Y))) : Ji Γ (iSeq K tl) xs Y := fun σ H ty R k => by
  refine .inl (h σ H ty _ fun v H1 e1 p => ?_)
  obtain ⟨a, vs, rfl, h1, h2⟩ := p
  have hlen : vs.length = xs.length := by rw [h2.length, List.length_map]
  refine ⟨a, rfl, ⟨vs, SqL.of h1⟩, k (Itl K a) H1 (fun H => H a = some (.lst vs)) (YAt vs) e1 (hlen ▸ walk_list.mono (fun H z => SqL.of z) fun i H x H' _ _ y => y) h1 (fun Ha Hb e z => e.get z) fun i Ha x Hb e z hi y => ?_⟩
  obtain ⟨rfl, hx⟩ := y
  obtain ⟨u, hu, pu⟩ := h2.get (i := i) (t := Y xs[i]) (by rw [List.getElem?_map, List.getElem?_eq_getElem hi]; rfl)
  rw [hx] at hu
  cases hu
  exact ⟨xs[i], List.getElem?_eq_getElem hi, Same.refl _, (Y _).mono e pu⟩
/-- a tuple of one int -/
theorem jd_one {x : Int} (h : Jd Γ ta (dt (.int x))) : Jd Γ (tTup (tCons ta tNil)) (dt (sD [x])) := jd_tup (ds := [.int x]) (ja_cons h ja_nil) (by simp)
theorem jd_nil : Jd Γ (tTup tNil) (dt (sD [])) := jd_tup (ds := []) ja_nil (by simp)
/-- a tuple of the chosen ints of a set -/
theorem jd_filter {wi : TI} {tt : TT} {te : TE} {s : List Int} {j : Nat} {p : Int → Bool} (hi : Ji Γ wi s fun a => dt (.int a)) (ht : ∀ a ∈ s, Jt ((wipeG Γ [j]).set j (some (dt (.int a)))) tt (p a)) (he : ∀ a ∈ s, Jd ((wipeG Γ [j]).set j (some (dt (.int a)))) te (dt (.int a))) (hn : s.length ≤ 1000) :
    Jd Γ (tCB (rTupQ K) (tCons (tLc wi (gName j) tt te [j]) tNil)) (dt (sD (s.filter p))) :=
  jd_tupOf (jd_of_jf (jf_lc (bind := fun a Γ => Γ.set j (some (dt (.int a)))) (q := .int) hi (tg_name j) ht (fun a ha _ => he a ha) hn fun a _ _ => noL_int a))
end
theorem len6 {n : Nat} {s : List Int} (h : IsSet n s) (hn : n ≤ 6) : s.length ≤ 6 := Nat.le_trans (isSet_len h) hn
end Ost
set_option Elab.async false
set_option linter.all false
set_option maxRecDepth 100000
set_option maxHeartbeats 4000000
/-! K7: the rules that name the written part, with it as a letter (within comprehensions, too). -/
namespace Ost
open PySem PySem.Spec PyProof.Rows L2
open C8 (Cal pe_c Mak pe_mk Met pe_gc)
section
variable {X : Cx} {K : PySem.W.Frag} {w : World}
theorem o_in (hK : X.K = K) (hw : X.w = w) (hu : X.A.units + 65 < cLine) : OpR X (compareOp .In) (rInA K w) := by subst hK hw; exact op_inA hu
theorem o_notIn (hK : X.K = K) (hw : X.w = w) (hu : X.A.units + 65 < cLine) : OpR X (compareOp .NotIn) (rNotInA K w) := by subst hK hw; exact op_notInA hu
theorem o_eq (hK : X.K = K) (hu : X.A.units + 64 < cLine) : OpR X (compareOp .Eq) (rEqD K) := by subst hK; exact op_eqD hu
theorem o_ne (hK : X.K = K) (hu : X.A.units + 64 < cLine) : OpR X (compareOp .NotEq) (rNeD K) := by subst hK; exact op_neD hu
theorem o_add (hK : X.K = K) : OpR X (binaryOp .Add) (rAddA K) := by subst hK; exact op_addA
theorem o_ltT (hK : X.K = K) (hu : X.A.units < cLine) : OpR X (compareOp .Lt) (rLtT K) := by subst hK; exact op_ltT hu
theorem x_ix (hK : X.K = K) : IxR X (rIxA K) := by subst hK; exact ix_A
theorem s_tup (hK : X.K = K) : SlR X (rSlA K) := by subst hK; exact sl_tupA
theorem s_lst (hK : X.K = K) : SlR X (rSlL K) := by subst hK; exact sl_list
theorem c_len (hK : X.K = K) : CallR X (.builtin "len") (rLenQ K) := by subst hK; exact call_lenQ
theorem c_isi (hK : X.K = K) : CallR X (.builtin "isinstance") (rIsi K) := by subst hK; exact call_isi
theorem c_tup (hK : X.K = K) : CallR X (.type "tuple") (rTupQ K) := by subst hK; exact call_tupQ
theorem c_set (hK : X.K = K) (hw : X.w = w) (hc : X.calm = true) : CallR X (.type "set") (rSetT K w) := by subst hK hw; exact call_setI hc
theorem c_set0 (hw : X.w = w) : CallR X (.type "set") (rSet0 w) := by subst hw; exact cr_set0
theorem c_sorted (hw : X.w = w) (hc : X.calm = true) (hu : X.A.units + 65 < cLine) : CallR X (.builtin "sorted") (rSortA w) := by subst hw; exact cr_sortedA hc hu
theorem c_all (hK : X.K = K) (hc : X.calm = true) : CallR X (.builtin "all") (rAll K) := by subst hK; exact cr_all hc
theorem c_max (hK : X.K = K) (hc : X.calm = true) : CallR X (.builtin "max") (rMax K) := by subst hK; exact cr_max hc
theorem m_index (hK : X.K = K) (hu : X.A.units + 65 < cLine) : MtR X "list.index" (rIndexD K) := by subst hK; exact mt_indexD hu
variable {tg l e : Expr} {tl te : TE} {f : Str} {pos : Pos}
theorem e_fld (hK : X.K = K) (he : PE X e te) (hb : attributeBase e f X.env (eval e X.env) = eval e X.env) : PE X (.Attribute e f pos) (tFld K te f) := by subst hK; exact pe_fld he hb
theorem i_seq (hK : X.K = K) (h : PE X l tl) : PI X tg l (iSeq K tl) := by subst hK; exact pi_seq h
theorem g_tup (hK : X.K = K) {es : List Expr} {k : Nat} {t : TGs} {n : Nat} (hc : X.calm = true) (h : PGs X es t)
    (hn : (assignEach es X.env).length = n := by rfl) (hst : (assignEach es X.env).findIdx? (·.1) = none := by rfl) : PG X (.Tuple es k pos) (gTup K n t) := by subst hK; exact pg_tup hc h hn hst
end
end Ost
set_option Elab.async false
set_option linter.all false
set_option maxRecDepth 100000
set_option maxHeartbeats 4000000
/-! KM: bodies with lists and dicts of their own that change. -/
namespace Ost
open PySem PySem.Spec PyProof.Rows L2
open C8 (Cal pe_c Mak pe_mk Met pe_gc)

/-- the pairs of a dict whose keys are sets -/
def DicAll (H : Hp) (m : List (List Int × PyData)) (kvs : List (List Key × V)) : Prop := kvs.map (·.1) = m.map (fun p => keyOf p.1) ∧ TpAll H (m.map (·.2)) (kvs.map (·.2))
def lookD (m : List (List Int × PyData)) (s : List Int) : Option PyData := (m.find? fun p => decide (p.1 = s)).map (·.2)
theorem DicAll.mono {H H' : Hp} {m : List (List Int × PyData)} {kvs : List (List Key × V)} (e : Same H H') (h : DicAll H m kvs) : DicAll H' m kvs := ⟨h.1, TpAll.mono e _ _ h.2⟩
theorem DicAll.keep {H H' : Hp} {m : List (List Int × PyData)} {kvs : List (List Key × V)} (e : Tups H H') (n : noLs (m.map (·.2)) = true) (h : DicAll H m kvs) : DicAll H' m kvs := ⟨h.1, TpAll.keep e _ _ n h.2⟩
theorem DicAll.look {H : Hp} : ∀ {m : List (List Int × PyData)} {kvs : List (List Key × V)} (s : List Int), DicAll H m kvs →
    match lookD m s with
    | some d => ∃ v, valV kvs (keyOf s) = some v ∧ Tp H d v
    | none => valV kvs (keyOf s) = none
  | [], kvs, s, h => by
    have : kvs = [] := List.map_eq_nil_iff.mp h.1
    subst this
    rfl
  | p :: m, [], s, h => by have := h.1; simp at this
  | p :: m, q :: kvs, s, h => by
    obtain ⟨h1, h2⟩ := h
    simp only [List.map_cons, List.cons.injEq] at h1
    obtain ⟨v, r, e, h3, h4⟩ := ta_cons.mp h2
    simp only [List.map_cons, List.cons.injEq] at e
    obtain ⟨rfl, rfl⟩ := e
    by_cases hp : p.1 = s
    · have : lookD (p :: m) s = some p.2 := by unfold lookD; rw [List.find?_cons_of_pos (by simp [hp])]; rfl
      rw [this]
      exact ⟨q.2, valV_pos (by rw [h1.1, hp]), h3⟩
    · have e1 : lookD (p :: m) s = lookD m s := by unfold lookD; rw [List.find?_cons_of_neg (by simp [hp])]
      have e2 : valV (q :: kvs) (keyOf s) = valV kvs (keyOf s) := valV_neg (by rw [h1.1]; exact fun z => hp (keyOf_inj z))
      rw [e1, e2]
      exact DicAll.look s ⟨h1.2, h4⟩
/-- d[s] = x for a new key -/
theorem DicAll.snoc {H : Hp} {m : List (List Int × PyData)} {kvs : List (List Key × V)} {s : List Int} {d : PyData} {v : V} (h : DicAll H m kvs) (n : lookD m s = none) (t : Tp H d v) : putK kvs (keyOf s) v = kvs ++ [(keyOf s, v)] ∧ DicAll H (m ++ [(s, d)]) (kvs ++ [(keyOf s, v)]) := by
  have q := h.look s
  rw [n] at q
  refine ⟨putK_new v q, ?_, ?_⟩
  · rw [List.map_append, List.map_append, h.1]; rfl
  · rw [List.map_append, List.map_append]
    exact h.2.snoc t
theorem DicAll.length {H : Hp} {m : List (List Int × PyData)} {kvs : List (List Key × V)} (h : DicAll H m kvs) : kvs.length = m.length := by
  have := congrArg List.length h.1
  rwa [List.length_map, List.length_map] at this
def dicT (m : List (List Int × PyData)) : VT := ⟨fun v H => ∃ l kvs, v = .ref l ∧ H l = some (.dT kvs) ∧ DicAll H m kvs, fun e h => by
  obtain ⟨l, kvs, h1, h2, h3⟩ := h
  exact ⟨l, kvs, h1, e.get h2, h3.mono e⟩⟩

/-- a deck: its cells, and how far it is -/
def deckO (c : Addr) (n : Int) : HO := .dK [(Sum.inr "cells", .ref c), (Sum.inr "at", .int n)]
def deckT (l c : Addr) (cs : List Int) (n : Int) : VT := ⟨fun v H => v = .ref l ∧ H l = some (deckO c n) ∧ H c = some (.lst (cs.map V.int)), fun e h => by
  obtain ⟨h1, h2, h3⟩ := h
  exact ⟨h1, e.get h2, e.get h3⟩⟩
/-- what a slot holds: an argument; data; a list, a dict of the body's own -/
inductive MT where
  | arg (t : VT)
  | dat (d : PyData)
  | own (ds : List PyData)
  | dic (m : List (List Int × PyData))
  | dek (l c : Addr) (cs : List Int) (n : Int)
def MT.isOwn : MT → Bool
  | .own _ => true
  | .dic _ => true
  | .dek _ _ _ _ => true
  | _ => false
def MT.P (H0 : Hp) (v : V) (H : Hp) : MT → Prop
  | .arg t => t.P v H0
  | .dat d => noL d = true ∧ Tp H d v
  | .own ds => noLs ds = true ∧ ∃ l vs, v = .ref l ∧ H0 l = none ∧ H l = some (.lst vs) ∧ TpAll H ds vs
  | .dic m => noLs (m.map (·.2)) = true ∧ ∃ l kvs, v = .ref l ∧ H0 l = none ∧ H l = some (.dT kvs) ∧ DicAll H m kvs
  | .dek l c cs n => v = .ref l ∧ H0 l = none ∧ H l = some (deckO c n) ∧ H0 c = some (.lst (cs.map V.int))
def MT.vt : MT → VT
  | .arg t => t
  | .dat d => dt d
  | .own ds => dt (.list ds)
  | .dic m => dicT m
  | .dek l c cs n => deckT l c cs n
theorem MT.P.vt {H0 H : Hp} {v : V} {t : MT} (e : Same H0 H) (h : t.P H0 v H) : t.vt.P v H := by
  cases t with
  | arg t => exact t.mono e h
  | dat d => exact h.2
  | own ds => obtain ⟨_, l, vs, rfl, _, h2, h3⟩ := h; exact dt_lst h2 h3
  | dic m => obtain ⟨_, l, kvs, rfl, _, h2, h3⟩ := h; exact ⟨l, kvs, rfl, h2, h3⟩
  | dek l c cs n => obtain ⟨rfl, _, h2, h3⟩ := h; exact ⟨rfl, h2, e.get h3⟩
theorem MT.P.mono {H0 H H' : Hp} {v : V} {t : MT} (e : Same H H') (h : t.P H0 v H) : t.P H0 v H' := by
  cases t with
  | arg t => exact h
  | dat d => exact ⟨h.1, Tp.mono e _ _ h.2⟩
  | own ds => obtain ⟨n, l, vs, h0, h1, h2, h3⟩ := h; exact ⟨n, l, vs, h0, h1, e.get h2, TpAll.mono e _ _ h3⟩
  | dic m => obtain ⟨n, l, kvs, h0, h1, h2, h3⟩ := h; exact ⟨n, l, kvs, h0, h1, e.get h2, h3.mono e⟩
  | dek l c cs n => obtain ⟨h0, h1, h2, h3⟩ := h; exact ⟨h0, h1, e.get h2, h3⟩
/-- another own thing is written -/
theorem MT.P.upd {H0 H : Hp} {v : V} {t : MT} {a : Addr} {o : HO} (nt : ∀ xs, H a ≠ some (.tup xs)) (h : t.P H0 v H) (ne : t.isOwn = true → v ≠ .ref a) : t.P H0 v (L2.upd H a o) := by
  have ku : Tups H (L2.upd H a o) := Tups.upd nt
  cases t with
  | arg t => exact h
  | dat d => exact ⟨h.1, Tp.keep ku _ _ h.1 h.2⟩
  | own ds =>
    obtain ⟨n, l, vs, rfl, h1, h2, h3⟩ := h
    have hl : l ≠ a := fun z => ne rfl (by rw [z])
    exact ⟨n, l, vs, rfl, h1, by rw [upd_ne hl]; exact h2, TpAll.keep ku _ _ n h3⟩
  | dic m =>
    obtain ⟨n, l, kvs, rfl, h1, h2, h3⟩ := h
    have hl : l ≠ a := fun z => ne rfl (by rw [z])
    exact ⟨n, l, kvs, rfl, h1, by rw [upd_ne hl]; exact h2, h3.keep ku n⟩
  | dek l c cs n =>
    obtain ⟨rfl, h1, h2, h3⟩ := h
    have hl : l ≠ a := fun z => ne rfl (by rw [z])
    exact ⟨rfl, h1, by rw [upd_ne hl]; exact h2, h3⟩
abbrev Mm := List (Option MT)
structure TyM (H0 : Hp) (Γ : Mm) (σ : L2.St) (H : Hp) : Prop where
  same : Same H0 H
  len : Γ.length = σ.length
  at_ : ∀ (i : Nat) (t : MT), Γ[i]? = some (some t) → ∃ v, σ[i]? = some (some v) ∧ t.P H0 v H
  apart : ∀ (i j : Nat) (s t : MT) (v : V), i ≠ j → Γ[i]? = some (some s) → Γ[j]? = some (some t) → s.isOwn = true → t.isOwn = true → σ[i]? = some (some v) → σ[j]? ≠ some (some v)
def vtG (Γ : Mm) : Gm := Γ.map (Option.map MT.vt)
theorem TyM.ty {H0 : Hp} {Γ : Mm} {σ : L2.St} {H : Hp} (h : TyM H0 Γ σ H) : Ty (vtG Γ) σ H := ⟨by unfold vtG; rw [List.length_map]; exact h.len, fun i t q => by
  unfold vtG at q
  rw [List.getElem?_map] at q
  obtain ⟨o, h1, h2⟩ := Option.map_eq_some_iff.mp q
  obtain ⟨u, rfl, rfl⟩ : ∃ u, o = some u ∧ t = u.vt := by
    cases o with
    | none => cases h2
    | some u => exact ⟨u, rfl, (Option.some.inj h2).symm⟩
  obtain ⟨v, h3, h4⟩ := h.at_ i u h1
  exact ⟨v, h3, h4.vt h.same⟩⟩
theorem TyM.mono {H0 : Hp} {Γ : Mm} {σ : L2.St} {H H' : Hp} (e : Same H H') (h : TyM H0 Γ σ H) : TyM H0 Γ σ H' := ⟨h.same.trans e, h.len, fun i t q => by
  obtain ⟨v, h1, h2⟩ := h.at_ i t q
  exact ⟨v, h1, h2.mono e⟩, h.apart⟩
/-- a slot gets a value: data -/
theorem set_at {α : Type} {xs : List α} {i j : Nat} {x : α} {y : α} (h : (xs.set i x)[j]? = some y) : (i = j ∧ y = x) ∨ (i ≠ j ∧ xs[j]? = some y) := by
  by_cases e : i = j
  · subst e
    by_cases hj : i < xs.length
    · rw [List.getElem?_set_self hj] at h
      exact .inl ⟨rfl, (Option.some.inj h).symm⟩
    · rw [List.getElem?_eq_none (by rw [List.length_set]; omega)] at h
      cases h
  · rw [List.getElem?_set_ne e] at h
    exact .inr ⟨e, h⟩
theorem set_lt {α : Type} {xs : List α} {i : Nat} {x y : α} (h : (xs.set i x)[i]? = some y) : i < xs.length := by
  obtain ⟨h1, _⟩ := List.getElem?_eq_some_iff.mp h
  rwa [List.length_set] at h1
theorem TyM.put {H0 : Hp} {Γ : Mm} {σ : L2.St} {H : Hp} {v : V} {t : MT} (h : TyM H0 Γ σ H) (i : Nat) (p : t.P H0 v H) (ne : t.isOwn = true → ∀ (j : Nat) (s : MT), j ≠ i → Γ[j]? = some (some s) → s.isOwn = true → σ[j]? ≠ some (some v)) : TyM H0 (Γ.set i (some t)) (σ.set i (some v)) H := by
  refine ⟨h.same, by rw [List.length_set, List.length_set, h.len], fun j u q => ?_, fun j k s u x hjk hj hk sj uk xj => ?_⟩
  · rcases set_at q with ⟨rfl, e⟩ | ⟨e, q'⟩
    · cases e
      exact ⟨v, List.getElem?_set_self (by have := set_lt q; rw [← h.len]; exact this), p⟩
    · obtain ⟨w, h1, h2⟩ := h.at_ j u q'
      exact ⟨w, by rw [List.getElem?_set_ne e]; exact h1, h2⟩
  · rcases set_at hj with ⟨rfl, e⟩ | ⟨e, hj'⟩
    · cases e
      have hx : x = v := by
        rw [List.getElem?_set_self (by have := set_lt hj; rw [← h.len]; exact this)] at xj
        exact (Option.some.inj (Option.some.inj xj)).symm
      subst hx
      rcases set_at hk with ⟨e2, _⟩ | ⟨e2, hk'⟩
      · exact absurd e2 hjk
      · rw [List.getElem?_set_ne e2]
        exact ne sj k u (Ne.symm e2) hk' uk
    · rw [List.getElem?_set_ne e] at xj
      rcases set_at hk with ⟨rfl, e2⟩ | ⟨e2, hk'⟩
      · cases e2
        rw [List.getElem?_set_self (by have := set_lt hk; rw [← h.len]; exact this)]
        intro z
        have z' : v = x := Option.some.inj (Option.some.inj z)
        subst z'
        exact ne uk j s hjk hj' sj xj
      · rw [List.getElem?_set_ne e2]
        exact h.apart j k s u x hjk hj' hk' sj uk xj
theorem TyM.drop {H0 : Hp} {Γ : Mm} {σ : L2.St} {H : Hp} (h : TyM H0 Γ σ H) (i : Nat) : TyM H0 (Γ.set i none) σ H := by
  have back : ∀ {j : Nat} {t : MT}, (Γ.set i none)[j]? = some (some t) → Γ[j]? = some (some t) := fun {j t} q => by
    rcases set_at q with ⟨_, e⟩ | ⟨_, q'⟩
    · cases e
    · exact q'
  exact ⟨h.same, by rw [List.length_set, h.len], fun j u q => h.at_ j u (back q), fun j k s u x hjk hj hk => h.apart j k s u x hjk (back hj) (back hk)⟩
/-- slots forgotten -/
def Mle : Mm → Mm → Prop
  | [], [] => True
  | _ :: a, none :: b => Mle a b
  | x :: a, some t :: b => x = some t ∧ Mle a b
  | _, _ => False
theorem Mle.key : ∀ {Γ Γ' : Mm}, Mle Γ Γ' → Γ'.length = Γ.length ∧ ∀ (i : Nat) (t : MT), Γ'[i]? = some (some t) → Γ[i]? = some (some t)
  | [], [], _ => ⟨rfl, fun i t h => by simp at h⟩
  | [], _ :: _, g => g.elim
  | _ :: _, [], g => g.elim
  | x :: a, none :: b, g => by
    obtain ⟨h1, h2⟩ := Mle.key (show Mle a b from g)
    refine ⟨by rw [List.length_cons, List.length_cons, h1], fun i t h => ?_⟩
    cases i with
    | zero => simp at h
    | succ i => exact h2 i t (by simpa using h)
  | x :: a, some u :: b, g => by
    obtain ⟨e, g'⟩ := (show x = some u ∧ Mle a b from g)
    obtain ⟨h1, h2⟩ := Mle.key g'
    refine ⟨by rw [List.length_cons, List.length_cons, h1], fun i t h => ?_⟩
    cases i with
    | zero => rw [e]; simpa using h
    | succ i => exact h2 i t (by simpa using h)
theorem TyM.weak {H0 : Hp} {Γ Γ' : Mm} {σ : L2.St} {H : Hp} (g : Mle Γ Γ') (h : TyM H0 Γ σ H) : TyM H0 Γ' σ H := by
  obtain ⟨h1, h2⟩ := g.key
  exact ⟨h.same, by rw [h1, h.len], fun i t q => h.at_ i t (h2 i t q), fun i j s t v n a b => h.apart i j s t v n (h2 i s a) (h2 j t b)⟩

/-! ### what is not one's own stays -/
def Foreign (Γ : Mm) (σ : L2.St) (a : Addr) : Prop := ∀ (i : Nat) (t : MT), Γ[i]? = some (some t) → t.isOwn = true → σ[i]? ≠ some (some (.ref a))
def Fra (Γ : Mm) (σ : L2.St) (H : Hp) (Γ' : Mm) (σ' : L2.St) (H' : Hp) : Prop := ∀ a o, H a = some o → noT o = true → Foreign Γ σ a → H' a = some o ∧ Foreign Γ' σ' a
theorem Fra.refl {Γ : Mm} {σ : L2.St} {H : Hp} : Fra Γ σ H Γ σ H := fun a o h _ f => ⟨h, f⟩
theorem Fra.trans {Γ Γ1 Γ2 : Mm} {σ σ1 σ2 : L2.St} {H H1 H2 : Hp} (x : Fra Γ σ H Γ1 σ1 H1) (y : Fra Γ1 σ1 H1 Γ2 σ2 H2) : Fra Γ σ H Γ2 σ2 H2 := fun a o h n f => by
  obtain ⟨h1, f1⟩ := x a o h n f
  exact y a o h1 n f1
theorem Fra.same {Γ : Mm} {σ : L2.St} {H H' : Hp} (e : Same H H') : Fra Γ σ H Γ σ H' := fun a o h n f => ⟨e.obj a o h n, f⟩
theorem Foreign.weak {Γ Γ' : Mm} {σ : L2.St} {a : Addr} (g : Mle Γ Γ') (f : Foreign Γ σ a) : Foreign Γ' σ a := fun i t h so => f i t (g.key.2 i t h) so
theorem Fra.weak {Γ Γ1 Γ2 : Mm} {σ σ1 : L2.St} {H H1 : Hp} (x : Fra Γ σ H Γ1 σ1 H1) (g : Mle Γ1 Γ2) : Fra Γ σ H Γ2 σ1 H1 := fun a o h n f => by
  obtain ⟨h1, f1⟩ := x a o h n f
  exact ⟨h1, f1.weak g⟩
theorem Fra.pre {Γ Γ1 Γ2 : Mm} {σ σ1 : L2.St} {H H1 : Hp} (g : Mle Γ Γ1) (x : Fra Γ1 σ H Γ2 σ1 H1) : Fra Γ σ H Γ2 σ1 H1 := fun a o h n f => x a o h n (f.weak g)
theorem Foreign.put {Γ : Mm} {σ : L2.St} {a : Addr} {i : Nat} {t : MT} {v : V} (f : Foreign Γ σ a) (h : t.isOwn = true → v ≠ .ref a) : Foreign (Γ.set i (some t)) (σ.set i (some v)) a := fun j u hj so z => by
  rcases set_at hj with ⟨rfl, e⟩ | ⟨e, hj'⟩
  · cases e
    rcases set_at z with ⟨_, e2⟩ | ⟨e2, _⟩
    · exact h so (Option.some.inj e2).symm
    · exact e2 rfl
  · rw [List.getElem?_set_ne e] at z
    exact f j u hj' so z
theorem Foreign.drop {Γ : Mm} {σ : L2.St} {a : Addr} (f : Foreign Γ σ a) (i : Nat) : Foreign (Γ.set i none) σ a := fun j u hj so => by
  rcases set_at hj with ⟨_, e⟩ | ⟨_, hj'⟩
  · cases e
  · exact f j u hj' so
theorem own_obj {H0 : Hp} {Γ : Mm} {σ : L2.St} {H : Hp} (ty : TyM H0 Γ σ H) {i : Nat} {t : MT} {a : Addr} (h : Γ[i]? = some (some t)) (so : t.isOwn = true) (z : σ[i]? = some (some (.ref a))) : H0 a = none ∧ ((∃ vs, H a = some (.lst vs)) ∨ (∃ kvs, H a = some (.dT kvs)) ∨ ∃ kvs, H a = some (.dK kvs)) := by
  obtain ⟨v, h1, h2⟩ := ty.at_ i t h
  rw [h1] at z
  cases z
  cases t with
  | arg _ => cases so
  | dat _ => cases so
  | own _ => obtain ⟨_, l, vs, e1, e0, e2, _⟩ := h2; cases e1; exact ⟨e0, .inl ⟨vs, e2⟩⟩
  | dic _ => obtain ⟨_, l, vs, e1, e0, e2, _⟩ := h2; cases e1; exact ⟨e0, .inr (.inl ⟨vs, e2⟩)⟩
  | dek _ _ _ _ => obtain ⟨e1, e0, e2, _⟩ := h2; cases e1; exact ⟨e0, .inr (.inr ⟨_, e2⟩)⟩
theorem foreign_tup {H0 : Hp} {Γ : Mm} {σ : L2.St} {H : Hp} (ty : TyM H0 Γ σ H) {a : Addr} {xs : List V} (h : H a = some (.tup xs)) : Foreign Γ σ a := fun i t hi so z => by
  rcases (own_obj ty hi so z).2 with ⟨vs, e⟩ | ⟨vs, e⟩ | ⟨vs, e⟩ <;> (rw [h] at e; cases e)
theorem foreign_none {H0 : Hp} {Γ : Mm} {σ : L2.St} {H : Hp} (ty : TyM H0 Γ σ H) {a : Addr} (h : H a = none) : Foreign Γ σ a := fun i t hi so z => by
  rcases (own_obj ty hi so z).2 with ⟨vs, e⟩ | ⟨vs, e⟩ | ⟨vs, e⟩ <;> (rw [h] at e; cases e)
theorem foreign_old {H0 : Hp} {Γ : Mm} {σ : L2.St} {H : Hp} (ty : TyM H0 Γ σ H) {a : Addr} {o : HO} (h : H0 a = some o) : Foreign Γ σ a := fun i t hi so z => by
  have := (own_obj ty hi so z).1
  rw [h] at this
  cases this
theorem Fra.tups {H0 : Hp} {Γ Γ' : Mm} {σ σ' : L2.St} {H H' : Hp} (ty : TyM H0 Γ σ H) (x : Fra Γ σ H Γ' σ' H') : Tups H H' := fun a xs h => (x a _ h rfl (foreign_tup ty h)).1

/-! ### the judgement -/
def Jm (Γ : Mm) (t : TS) (Γ' : Mm) (C : Prop) (R : VT) : Prop := ∀ H0 σ H, TyM H0 Γ σ H → ∀ D : Ends, (C → ∀ σ' H', Fra Γ σ H Γ' σ' H' → TyM H0 Γ' σ' H' → D.nx σ' H') → (∀ v H', Same H0 H' → R.P v H' → D.rt v H') → t D σ H
/-- a source of a for: data of the list or tuple that it gives -/
def seqO (isT : Bool) (us : List V) : HO := if isT = true then .tup us else .lst us
def Jsrc (isT : Bool) (Γ : Mm) (tl : TE) (Γ0 : Mm) (ds : List PyData) : Prop := ∀ H0 σ H, TyM H0 Γ σ H → ∀ Q : VK, (∀ a us H1, Fra Γ σ H Γ0 σ H1 → H1 a = some (seqO isT us) → TpAll H1 ds us → Foreign Γ0 σ a → TyM H0 Γ0 σ H1 → Q (.ref a) H1) → tl σ H Q
section
variable {Γ Γ' Γ1 Γ2 : Mm} {ta tb te tl : TE} {c : TT} {s1 s2 : TS} {K : PySem.W.Frag} {R T : VT} {C C1 C2 : Prop} {b : Bool} {d : PyData} {ds es : List PyData} {i : Nat}
theorem jm_seq (h1 : Jm Γ s1 Γ1 C1 R) (h2 : C1 → Jm Γ1 s2 Γ2 C2 R) : Jm Γ (tSeq s1 s2) Γ2 C2 R := fun H0 σ H ty D k r => h1 H0 σ H ty _ (fun c1 σ1 H1 f1 ty1 => h2 c1 H0 σ1 H1 ty1 D (fun c σ2 H2 f2 ty2 => k c σ2 H2 (f1.trans f2) ty2) r) r
theorem Jm.imp (h : Jm Γ s1 Γ1 C1 R) (i : C1 → C2) (g : Mle Γ1 Γ2) : Jm Γ s1 Γ2 C2 R := fun H0 σ H ty D k r => h H0 σ H ty D (fun c σ' H' f ty' => k (i c) σ' H' (f.weak g) (ty'.weak g)) r
theorem jm_weak (h : Jm Γ s1 Γ1 C R) (g : Mle Γ1 Γ2) : Jm Γ s1 Γ2 C R := h.imp id g
theorem jm_pre (h : Jm Γ1 s1 Γ2 C R) (g : Mle Γ Γ1) : Jm Γ s1 Γ2 C R := fun H0 σ H ty D k r => h H0 σ H (ty.weak g) D (fun c σ' H' f ty' => k c σ' H' (f.pre g) ty') r
theorem jm_next (c : C) : Jm Γ tNext Γ C R := fun H0 σ H ty D k r => k c σ H Fra.refl ty
theorem jm_ret (h : Jd (vtG Γ) te R) : Jm Γ (tRet te) Γ' C R := fun H0 σ H ty D k r => h σ H ty.ty _ fun v H1 e p => r v H1 (ty.same.trans e) p
theorem jm_drop (h : Jd (vtG Γ) te T) : Jm Γ (tDrop te) Γ True R := fun H0 σ H ty D k r => h σ H ty.ty _ fun v H1 e p => k trivial σ H1 (Fra.same e) (ty.mono e)
theorem jm_if (h : Jt (vtG Γ) c b) (h1 : b = true → Jm Γ s1 Γ' C R) (h2 : b = false → Jm Γ s2 Γ' C R) : Jm Γ (tIfS c s1 s2) Γ' C R := fun H0 σ H ty D k r => h σ H ty.ty _ fun H1 e => by
  have go : ∀ {s : TS}, Jm Γ s Γ' C R → s D σ H1 := fun {s} hs => hs H0 σ H1 (ty.mono e) D (fun c σ2 H2 f ty2 => k c σ2 H2 ((Fra.same e).trans f) ty2) r
  cases b with
  | true => exact iteT (go (h1 rfl))
  | false => exact iteF (go (h2 rfl))
theorem jm_guard (h : Jt (vtG Γ) c false) : Jm Γ (tIfS c s1 tNext) Γ True R := jm_if h (fun z => by cases z) fun _ => jm_next trivial
/-- data to a name -/
theorem jm_asg (h : Jd (vtG Γ) te (dt d)) (n : noL d = true) : Jm Γ (tAsg te (gName i)) (Γ.set i (some (.dat d))) True R := fun H0 σ H ty D k r =>
  h σ H ty.ty _ fun v H1 e p => k trivial _ H1 (fun a o h n f => ⟨e.obj a o h n, f.put fun z => by cases z⟩) ((ty.mono e).put i ⟨n, p⟩ fun z => by cases z)
theorem new_ne {H0 : Hp} {σ : L2.St} {H : Hp} (ty : TyM H0 Γ σ H) {l : Addr} (hn : H l = none) (j : Nat) (s : MT) (hs : Γ[j]? = some (some s)) (so : s.isOwn = true) : σ[j]? ≠ some (some (.ref l)) := fun z => foreign_none ty hn j s hs so z
/-- a new list to a name -/
theorem jm_new (h : Jf (vtG Γ) te ds) (n : noLs ds = true) : Jm Γ (tAsg te (gName i)) (Γ.set i (some (.own ds))) True R := fun H0 σ H ty D k r =>
  h σ H ty.ty _ fun l vs H1 e hn hl hv => k trivial _ H1 (fun a o h n f => ⟨e.obj a o h n, f.put fun _ z => by
    cases z
    rw [hn] at h
    cases h⟩) ((ty.mono e).put i ⟨n, l, vs, rfl, ty.same.free hn, hl, hv⟩ fun _ j s hj hs so => new_ne ty hn j s hs so)
/-- a new empty dict to a name -/
theorem jm_newD : Jm Γ (tAsg tDNewT (gName i)) (Γ.set i (some (.dic []))) True R := fun H0 σ H ty D k r => fun l hn => by
  have e : Same H (upd H l (.dT [])) := same_upd hn
  exact k trivial _ _ (fun a o h n f => ⟨e.obj a o h n, f.put fun _ z => by
    cases z
    rw [hn] at h
    cases h⟩) ((ty.mono e).put i ⟨rfl, l, [], rfl, ty.same.free hn, upd_same, rfl, TpAll.nil⟩ fun _ j s hj hs so => new_ne ty hn j s hs so)
/-- an own thing is written -/
theorem TyM.write {H0 : Hp} {σ : L2.St} {H : Hp} {l : Addr} {o : HO} {t t' : MT} (ty : TyM H0 Γ σ H) (hi : Γ[i]? = some (some t)) (ho : t.isOwn = true) (ho' : t'.isOwn = true) (hv : σ[i]? = some (some (.ref l))) (nc : NoCode H l) (p : t'.P H0 (.ref l) (upd H l o)) :
    TyM H0 (Γ.set i (some t')) σ (upd H l o) ∧ Fra Γ σ H (Γ.set i (some t')) σ (upd H l o) := by
  have key : ∀ (j : Nat) (u : MT), (Γ.set i (some t'))[j]? = some (some u) → (j = i ∧ u = t') ∨ (j ≠ i ∧ Γ[j]? = some (some u)) := fun j u q => by
    rcases set_at q with ⟨e, e2⟩ | ⟨e, q'⟩
    · exact .inl ⟨e.symm, Option.some.inj e2⟩
    · exact .inr ⟨Ne.symm e, q'⟩
  have oo := own_obj ty hi ho hv
  have nt : ∀ xs, H l ≠ some (.tup xs) := fun xs z => by rcases oo.2 with ⟨vs, e⟩ | ⟨vs, e⟩ | ⟨vs, e⟩ <;> (rw [z] at e; cases e)
  have f : ∀ {j : Nat} {s : MT}, (Γ.set i (some t'))[j]? = some (some s) → s.isOwn = true → ∃ s', Γ[j]? = some (some s') ∧ s'.isOwn = true := fun {j s} q so => by
    rcases key j s q with ⟨rfl, _⟩ | ⟨_, q'⟩
    · exact ⟨t, hi, ho⟩
    · exact ⟨s, q', so⟩
  refine ⟨⟨same_mut ty.same oo.1 nc, by rw [List.length_set, ty.len], fun j u q => ?_, fun j k s u x hjk hj hk sj uk xj => ?_⟩, fun a o' h n fo => ?_⟩
  · rcases key j u q with ⟨rfl, rfl⟩ | ⟨e, q'⟩
    · exact ⟨_, hv, p⟩
    · obtain ⟨v, h1, h2⟩ := ty.at_ j u q'
      exact ⟨v, h1, h2.upd nt fun so z => ty.apart i j t u (.ref l) (Ne.symm e) hi q' ho so hv (by rw [h1, z])⟩
  · obtain ⟨s', a1, a2⟩ := f hj sj
    obtain ⟨u', b1, b2⟩ := f hk uk
    exact ty.apart j k s' u' x hjk a1 b1 a2 b2 xj
  · have ne : a ≠ l := fun z => fo i t hi ho (by rw [hv, z])
    refine ⟨by rw [upd_ne ne]; exact h, fun j u hj so => ?_⟩
    obtain ⟨s', a1, a2⟩ := f hj so
    exact fo j s' a1 a2
theorem noLs_mem : ∀ {ds : List PyData}, noLs ds = true → ∀ z ∈ ds, noL z = true
  | [], _, z, hz => by cases hz
  | a :: ds, h, z, hz => by
    rw [noLs_cons, Bool.and_eq_true] at h
    rcases List.mem_cons.mp hz with e | e
    · rw [e]; exact h.1
    · exact noLs_mem h.2 z e
theorem noLs_app {ds es : List PyData} (h : noLs ds = true) (h2 : noLs es = true) : noLs (ds ++ es) = true := noLs_of fun z hz => (List.mem_append.mp hz).elim (noLs_mem h z) (noLs_mem h2 z)
theorem noLs_one {d : PyData} (h : noL d = true) : noLs [d] = true := noLs_of fun z hz => by rw [List.mem_singleton.mp hz]; exact h
/-- own.append(e) -/
theorem jm_append (hi : Γ[i]? = some (some (.own ds))) (h : Jd (vtG Γ) te (dt d)) (n : noL d = true) (hl : ds.length < 10000) : Jm Γ (tDrop (tBM K "list" rAppend (tVar i) (tCons te tNil))) (Γ.set i (some (.own (ds ++ [d])))) True R := fun H0 σ H ty D k r => by
  obtain ⟨v, h1, nl, l, vs, rfl, h0, h2, h3⟩ := ty.at_ i _ hi
  refine ⟨.ref l, h1, .inl ⟨rfl, _, SqL.of h2⟩, h σ H ty.ty _ fun x H1 e p => ?_⟩
  have h2' : H1 l = some (.lst vs) := e.get h2
  refine ⟨l, vs, x, rfl, rfl, h2', Nat.lt_of_lt_of_le (by rw [h3.length]; exact hl) (by decide : 10000 ≤ sizeLine), ?_⟩
  have kp := Tups.lst (o := .lst (vs ++ [x])) h2'
  obtain ⟨t2, f2⟩ := (ty.mono e).write (t' := .own (ds ++ [d])) (o := .lst (vs ++ [x])) hi rfl rfl h1 (nocode_lst h2') ⟨noLs_app nl (noLs_one n), l, _, rfl, h0, upd_same, (TpAll.keep kp _ _ nl (TpAll.mono e _ _ h3)).snoc (Tp.keep kp _ _ n p)⟩
  exact k trivial σ _ ((Fra.same e).trans f2) t2
/-- own.extend(a list of data) -/
theorem jm_extend (hi : Γ[i]? = some (some (.own ds))) (h : Jd (vtG Γ) te (dt (.list es))) (n : noLs es = true) (hl : ds.length + es.length < 10000) : Jm Γ (tDrop (tBM K "list" rExtend (tVar i) (tCons te tNil))) (Γ.set i (some (.own (ds ++ es)))) True R := fun H0 σ H ty D k r => by
  obtain ⟨v, h1, nl, l, vs, rfl, h0, h2, h3⟩ := ty.at_ i _ hi
  refine ⟨.ref l, h1, .inl ⟨rfl, _, SqL.of h2⟩, h σ H ty.ty _ fun x H1 e p => ?_⟩
  obtain ⟨m, us, rfl, q1, q2⟩ := of_lst p
  have h2' : H1 l = some (.lst vs) := e.get h2
  refine ⟨l, m, vs, us, rfl, rfl, h2', q1, Nat.le_of_lt (Nat.lt_of_lt_of_le (by rw [h3.length, q2.length]; exact hl) (by decide : 10000 ≤ sizeLine)), ?_⟩
  have kp := Tups.lst (o := .lst (vs ++ us)) h2'
  obtain ⟨t2, f2⟩ := (ty.mono e).write (t' := .own (ds ++ es)) (o := .lst (vs ++ us)) hi rfl rfl h1 (nocode_lst h2') ⟨noLs_app nl n, l, _, rfl, h0, upd_same, (TpAll.keep kp _ _ nl (TpAll.mono e _ _ h3)).append (TpAll.keep kp _ _ n q2)⟩
  exact k trivial σ _ ((Fra.same e).trans f2) t2
/-- a name gets the own thing of another, which is forgotten -/
theorem jm_move {j : Nat} {t : MT} (hj : Γ[j]? = some (some t)) (ho : t.isOwn = true) (hij : i ≠ j) : Jm Γ (tAsg (tVar j) (gName i)) ((Γ.set j none).set i (some t)) True R := fun H0 σ H ty D k r => by
  obtain ⟨v, h1, h2⟩ := ty.at_ j _ hj
  refine ⟨v, h1, k trivial _ H (fun a o h n f => ⟨h, (f.drop j).put fun _ z => f j t hj ho (by rw [h1, z])⟩) ((ty.drop j).put i h2 fun _ m s hm hs so z => ?_)⟩
  rcases set_at hs with ⟨_, e⟩ | ⟨e, hs'⟩
  · cases e
  · exact ty.apart j m t s v e hj hs' ho so h1 z
/-- the last item taken off a list of one's own -/
theorem jm_pop {j : Nat} (hj : Γ[j]? = some (some (.own (ds ++ [d])))) (hij : i ≠ j) : Jm Γ (tAsg (tBM0 K "list" rPop (tVar j)) (gName i)) ((Γ.set j (some (.own ds))).set i (some (.dat d))) True R := fun H0 σ H ty D k r => by
  obtain ⟨v, h1, nl, l, vs, rfl, h0, h2, h3⟩ := ty.at_ j _ hj
  obtain ⟨us, x, rfl, q1, q2⟩ : ∃ us x, vs = us ++ [x] ∧ TpAll H ds us ∧ Tp H d x := by
    have e : vs = vs.take ds.length ++ vs.drop ds.length := (List.take_append_drop _ _).symm
    have t1 := h3.take ds.length
    have t2 := h3.drop ds.length
    rw [List.take_left] at t1
    rw [List.drop_left] at t2
    obtain ⟨x, r2, e2, t3, t4⟩ := ta_cons.mp t2
    rw [ta_nil] at t4
    subst t4
    exact ⟨_, x, by rw [← e2]; exact e, t1, t3⟩
  have nd : noL d = true := noLs_mem nl d (by simp)
  have nds : noLs ds = true := noLs_of fun z hz => noLs_mem nl z (List.mem_append_left _ hz)
  refine ⟨.ref l, h1, .inl ⟨rfl, _, SqL.of h2⟩, l, us ++ [x], x, rfl, rfl, h2, by simp, ?_⟩
  rw [List.dropLast_concat]
  have kp := Tups.lst (o := .lst us) h2
  obtain ⟨t2, f2⟩ := ty.write (t' := .own ds) (o := .lst us) hj rfl rfl h1 (nocode_lst h2) ⟨nds, l, us, rfl, h0, upd_same, TpAll.keep kp _ _ nds q1⟩
  exact k trivial _ _ (f2.trans fun a o h n f => ⟨h, f.put fun z => by cases z⟩) (t2.put i ⟨nd, Tp.keep kp _ _ nd q2⟩ fun z => by cases z)
/-- own[s] = e, a new key -/
theorem jm_dput {m : List (List Int × PyData)} {s : List Int} (hi : Γ[i]? = some (some (.dic m))) (hk : Jd (vtG Γ) tb (dt (sD s))) (h : Jd (vtG Γ) te (dt d)) (n : noL d = true) (hs : lookD m s = none) (hl : m.length < 10000) : Jm Γ (sDPut (tVar i) tb te) (Γ.set i (some (.dic (m ++ [(s, d)])))) True R := fun H0 σ H ty D k r => by
  refine h σ H ty.ty _ fun x H1 e1 p1 => ?_
  obtain ⟨v, h1, nl, l, kvs, rfl, h0, h2, h3⟩ := (ty.mono e1).at_ i _ hi
  refine ⟨.ref l, h1, hk σ H1 (ty.mono e1).ty _ fun y H2 e2 p2 => ?_⟩
  obtain ⟨b, rfl, hb⟩ := tp_sD.mp p2
  have h2' : H2 l = some (.dT kvs) := e2.get h2
  obtain ⟨q1, q2⟩ := (h3.mono e2).snoc hs (Tp.mono e2 _ _ p1)
  have kp := Tups.dT (o := .dT (kvs ++ [(keyOf s, x)])) h2'
  have nl2 : noLs ((m ++ [(s, d)]).map (·.2)) = true := by
    rw [List.map_append]
    exact noLs_app nl (noLs_one n)
  have put := DPut.t (v := x) h2' (show H2 b = some (.tup ((keyOf s).map kV)) by rw [keyOf_kV]; exact hb) (Nat.lt_of_lt_of_le (by rw [(h3.mono e2).length]; exact hl) (by decide : 10000 ≤ sizeLine))
  rw [q1] at put
  obtain ⟨t2, f2⟩ := ((ty.mono e1).mono e2).write (t' := .dic (m ++ [(s, d)])) (o := .dT (kvs ++ [(keyOf s, x)])) hi rfl rfl h1 (nocode_dT h2') ⟨nl2, l, _, rfl, h0, upd_same, q2.keep kp nl2⟩
  exact ⟨l, _, rfl, put, k trivial σ _ ((Fra.same (e1.trans e2)).trans f2) t2⟩

/-! ### loops -/
theorem src_tup (h : Jd (vtG Γ) tl (dt (.tuple ds))) : Jsrc true Γ tl Γ ds := fun H0 σ H ty Q k => h σ H ty.ty _ fun v H1 e p => by
  obtain ⟨a, us, rfl, h1, h2⟩ := of_tup p
  exact k a us H1 (Fra.same e) h1 h2 (foreign_tup (ty.mono e) h1) (ty.mono e)
theorem src_own {j : Nat} (hj : Γ[j]? = some (some (.own ds))) : Jsrc false Γ (tVar j) (Γ.set j none) ds := fun H0 σ H ty Q k => by
  obtain ⟨v, h1, nl, l, vs, rfl, h0, h2, h3⟩ := ty.at_ j _ hj
  refine ⟨.ref l, h1, k l vs H (fun a o h n f => ⟨h, f.drop j⟩) h2 h3 (fun m s hs so z => ?_) (ty.drop j)⟩
  rcases set_at hs with ⟨_, e⟩ | ⟨e, hs'⟩
  · cases e
  · exact ty.apart j m (.own ds) s (.ref l) e hj hs' rfl so h1 z
theorem src_new (h : Jf (vtG Γ) tl ds) : Jsrc false Γ tl Γ ds := fun H0 σ H ty Q k => h σ H ty.ty _ fun l vs H1 e hn h1 h2 =>
  k l vs H1 (Fra.same e) h1 h2 (foreign_none ty hn) (ty.mono e)
/-- a target in a body with own things -/
def Tm {α : Type} (g : TG) (Y : α → PyData) (bd : α → Mm → Mm) : Prop := ∀ (H0 : Hp) (Γ : Mm) (a : α) (x : V) (σ : L2.St) (H : Hp) (Q : L2.St → Hp → Prop), TyM H0 Γ σ H → Tp H (Y a) x → noL (Y a) = true → (∀ σ', Fra Γ σ H (bd a Γ) σ' H → TyM H0 (bd a Γ) σ' H → Q σ' H) → g x σ H Q
theorem tm_name {α : Type} {Y : α → PyData} (j : Nat) : Tm (gName j) Y (fun a Γ => Γ.set j (some (.dat (Y a)))) := fun H0 Γ a x σ H Q ty p n k =>
  k _ (fun b o h _ f => ⟨h, f.put fun z => by cases z⟩) (ty.put j ⟨n, p⟩ fun z => by cases z)
theorem tm_pair {α : Type} {A B : α → PyData} (j1 j2 : Nat) : Tm (gTup K 2 (gCons (gName j1) (gCons (gName j2) gNil))) (fun a : α => .tuple [A a, B a]) (fun a Γ => (Γ.set j1 (some (.dat (A a)))).set j2 (some (.dat (B a)))) := fun H0 Γ a x σ H Q ty p n k => by
  obtain ⟨t, xs, rfl, h1, h2⟩ := tp_tuple.mp p
  obtain ⟨u, r, rfl, p1, h3⟩ := ta_cons.mp h2
  obtain ⟨w, r2, rfl, p2, h4⟩ := ta_cons.mp h3
  rw [ta_nil] at h4
  subst h4
  rw [noL_tuple, noLs_cons, noLs_cons, Bool.and_eq_true, Bool.and_eq_true] at n
  refine ⟨t, [u, w], rfl, SqT.of h1, rfl, u, [w], rfl, w, [], rfl, rfl, k _ (fun b o h _ f => ⟨h, (f.put fun z => by cases z).put fun z => by cases z⟩) ((ty.put j1 (t := .dat (A a)) ⟨n.1, p1⟩ fun z => by cases z).put j2 (t := .dat (B a)) ⟨n.2.1, p2⟩ fun z => by cases z)⟩
theorem jm_for {α : Type} {g : TG} {tb : TS} {xs : List α} {Y : α → PyData} {bd : α → Mm → Mm} {Γs : Nat → Mm} {C : Nat → Prop} {isT : Bool} (hs : Jsrc isT Γ tl (Γs 0) (xs.map Y)) (hn : ∀ a ∈ xs, noL (Y a) = true) (hg : Tm g Y bd) (c0 : C 0)
    (hb : ∀ i a, xs[i]? = some a → C i → Jm (bd a (Γs i)) tb (Γs (i + 1)) (C (i + 1)) R) : Jm Γ (tFor (iSeq K tl) g tb) (Γs xs.length) (C xs.length) R := fun H0 σ H ty D k r => by
  have nls : noLs (xs.map Y) = true := noLs_of fun d hd => by obtain ⟨z, hz, rfl⟩ := List.mem_map.mp hd; exact hn z hz
  have body : ∀ (J : It) (a : Addr) (us : List V) (o : HO) (H1 : Hp), noT o = true → us.length = xs.length → Walk J xs.length (fun H => H a = some o) (YAt us) → Fra Γ σ H (Γs 0) σ H1 → H1 a = some o → TpAll H1 (xs.map Y) us → Foreign (Γs 0) σ a → TyM H0 (Γs 0) σ H1 →
      ∃ W : Nat → Nat → L2.St → Hp → Prop, (∃ m, W 0 m σ H1) ∧ ∀ i m σ H, W i m σ H → (J.stop i H ∧ D.nx σ H) ∨ (J.go i H ∧ ∃ N : L2.St → Hp → Prop, (∀ σ' H', N σ' H' → ∃ m', m' < m ∧ W (i + 1) m' σ' H') ∧ ∀ x H', J.yld i H x H' → g x σ H' fun σ2 H2 => tb { D with nx := N, ct := N, bk := D.nx } σ2 H2) := by
    intro J a us o H1 no hlen W f1 ha hu hf ty1
    refine for_it W (fun i σ' H' => C i ∧ Fra Γ σ H (Γs i) σ' H' ∧ TyM H0 (Γs i) σ' H' ∧ H' a = some o ∧ Foreign (Γs i) σ' a ∧ TpAll H' (xs.map Y) us) ⟨c0, f1, ty1, ha, hf, hu⟩ (fun i σ' H' _ q => q.2.2.2.1) (fun i x σ' Ha Hb hlt ⟨c, f', ty', ha', hf', hu'⟩ hy => ?_) fun σ' H' ⟨c, f', ty', _⟩ => k c σ' H' f' ty'
    obtain ⟨rfl, hx⟩ := hy
    obtain ⟨d, hd, pd⟩ := hu'.got hx
    obtain ⟨z, hz, rfl⟩ := map_at hd
    refine hg H0 _ z x σ' _ _ ty' pd (hn z (List.mem_of_getElem? hz)) fun σ2 f2 ty2 => hb i z hz c H0 σ2 _ ty2 _ (fun c3 σ3 H3 f3 ty3 => ?_) r
    obtain ⟨a1, a2⟩ := (f2.trans f3) a o ha' no hf'
    exact ⟨c3, (f'.trans f2).trans f3, ty3, a1, a2, TpAll.keep ((f2.trans f3).tups ty') _ _ nls hu'⟩
  have ln : ∀ {H1 : Hp} {us : List V}, TpAll H1 (xs.map Y) us → us.length = xs.length := fun h => by rw [h.length, List.length_map]
  cases isT with
  | true => exact .inr (hs H0 σ H ty _ fun a us H1 f1 ha hu hf ty1 => ⟨a, rfl, ⟨us, SqT.of ha⟩, body (Itt K a) a us (.tup us) H1 rfl (ln hu) (ln hu ▸ walk_tup.mono (fun H z => SqT.of z) fun i H x H' _ _ y => y) f1 ha hu hf ty1⟩)
  | false => exact .inl (hs H0 σ H ty _ fun a us H1 f1 ha hu hf ty1 => ⟨a, rfl, ⟨us, SqL.of ha⟩, body (Itl K a) a us (.lst us) H1 rfl (ln hu) (ln hu ▸ walk_list.mono (fun H z => SqL.of z) fun i H x H' _ _ y => y) f1 ha hu hf ty1⟩)
/-- a for over a range -/
theorem jm_forR {g : TG} {tb : TS} {tg : TA} {hi : Int} {bd : Int → Mm → Mm} {Γs : Nat → Mm} {C : Nat → Prop} (hs : Ja (vtG (Γs 0)) tg [dt (.int hi)]) (h3 : 0 ≤ hi) (h4 : hi ≤ 100000) (hg : Tm g (fun a : Int => .int a) bd) (c0 : C 0)
    (hb : ∀ i : Nat, (i : Int) < hi → C i → Jm (bd i (Γs i)) tb (Γs (i + 1)) (C (i + 1)) R) : Jm (Γs 0) (tFor (iRng1 tg) g tb) (Γs hi.toNat) (C hi.toNat) R := fun H0 σ H ty D k r => by
  refine hs σ H ty.ty _ fun vs H1 e1 p => ?_
  match vs, p with
  | [y], p =>
    rw [of_int p.1]
    refine ⟨hi, rfl, by omega, by omega, ?_⟩
    refine for_range (lo := 0) (n := hi.toNat) (fun i σ' H' => C i ∧ Fra (Γs 0) σ H (Γs i) σ' H' ∧ TyM H0 (Γs i) σ' H') ⟨c0, Fra.same e1, ty.mono e1⟩ (fun i σ' Ha hlt ⟨c, f', ty'⟩ => ?_) fun σ' H' ⟨c, f', ty'⟩ => k c σ' H' f' ty'
    have e : (0 : Int) + (i : Int) = (i : Int) := Int.zero_add _
    rw [e]
    exact hg H0 _ (i : Int) _ σ' Ha _ ty' (tp_int.mpr rfl) (noL_int _) fun σ2 f2 ty2 => hb i (by omega) c H0 σ2 _ ty2 _ (fun c3 σ3 H3 f3 ty3 => ⟨c3, (f'.trans f2).trans f3, ty3⟩) r
/-- a while: the states are told by β -/
theorem jm_while {β : Type} {tb : TS} {Γs : β → Mm} {P : β → Prop} {μ : β → Nat} {Cf : β → Prop} (x0 : β) (p0 : P x0)
    (hs : ∀ x, P x → ∃ b, Jt (vtG (Γs x)) c b ∧ (b = true → ∃ y, P y ∧ μ y < μ x ∧ Jm (Γs x) tb (Γs y) True R) ∧ (b = false → Cf x)) (hC : ∀ x, P x → Cf x → C ∧ Mle (Γs x) Γ') : Jm (Γs x0) (tWhile c tb) Γ' C R := fun H0 σ H ty D k r => by
  refine ⟨fun m σ' H' => ∃ x, P x ∧ μ x = m ∧ Fra (Γs x0) σ H (Γs x) σ' H' ∧ TyM H0 (Γs x) σ' H', ⟨_, x0, p0, rfl, Fra.refl, ty⟩, ?_⟩
  rintro m σ' H' ⟨x, px, rfl, f, ty'⟩
  obtain ⟨b, hb, h1, h2⟩ := hs x px
  refine hb σ' H' ty'.ty _ fun H1 e => ?_
  cases b with
  | true =>
    obtain ⟨y, py, lt, hj⟩ := h1 rfl
    exact ⟨fun σ2 H2 => ∃ x, P x ∧ μ x = μ y ∧ Fra (Γs x0) σ H (Γs x) σ2 H2 ∧ TyM H0 (Γs x) σ2 H2, fun σ2 H2 q => ⟨_, lt, q⟩, hj H0 σ' H1 (ty'.mono e) _ (fun _ σ2 H2 f2 ty2 => ⟨y, py, rfl, (f.trans (Fra.same e)).trans f2, ty2⟩) r⟩
  | false =>
    obtain ⟨c1, g⟩ := hC x px (h2 rfl)
    exact k c1 σ' H1 ((f.trans (Fra.same e)).weak g) ((ty'.mono e).weak g)
end
/-- a def whose body has own things -/
theorem jm_args : ∀ {ts : List VT} {vs : List V} {H : Hp}, Fits ts vs H → ∀ n, TyM H (ts.map (fun t => some (.arg t)) ++ List.replicate n none) (vs.map some ++ List.replicate n none) H := by
  intro ts vs H h n
  have ty := ty_fits h n
  have at2 : ∀ (i : Nat) (t : MT), (ts.map (fun t => some (MT.arg t)) ++ List.replicate n none)[i]? = some (some t) → ∃ u, t = .arg u ∧ (ts.map some ++ List.replicate n none)[i]? = some (some u) := by
    intro i t q
    rw [List.getElem?_append] at q ⊢
    rw [List.length_map] at q ⊢
    split at q
    · rename_i hi
      rw [if_pos hi, List.getElem?_map]
      rw [List.getElem?_map] at q
      obtain ⟨u, h1, h2⟩ := Option.map_eq_some_iff.mp q
      exact ⟨u, (Option.some.inj h2).symm, by rw [h1]; rfl⟩
    · rw [List.getElem?_replicate] at q
      split at q <;> cases q
  refine ⟨Same.refl H, by have := ty.len; simpa using this, fun i t q => ?_, fun i j s t v _ hi _ so => ?_⟩
  · obtain ⟨u, rfl, q'⟩ := at2 i t q
    exact ty.at_ i u q'
  · obtain ⟨u, rfl, _⟩ := at2 i s hi
    cases so
theorem fn_jm {P : Program} {w : World} {K : PySem.W.Frag} {mg : Str → Option Value} {base : Heap} {α : Type} {S : Sg α} {x qual : Str} {st : Stmt} {f : Addr} {fd : FuncData} {N ps : List Str} {k : Nat}
    (F : FunD K x qual (defArgs st) (defBody st) (defScope st) [] [] f fd) (Sc : FnScope N ps (defScope st)) (hl : ∀ a, (S.ts a).length = ps.length)
    (hbody : ∀ (cdv : Value) (A : Around) (outer : List Env) (s : Shared) (H : Hp) (E : XK), Room k (A.deeper (envOfC qual (defScope st) s.heap.objs.size f cdv)) →
      ∃ t, PSs (cxOf L2.CX0 P w K mg base N qual (defScope st) f cdv A outer s H E) (defBody st) t ∧
        ∀ a, S.dom a → ∃ Γ' C, Jm ((S.ts a).map (fun t => some (.arg t)) ++ List.replicate (N.length - (S.ts a).length) none) t Γ' C (S.R a) ∧ (C → ∀ H, (S.R a).P .non H)) :
    FnOk P w K mg base L2.CX0 (k + 1) f fd ps S.sp := by
  refine fn_hand F Sc hl fun cdv A outer s H E hr => ?_
  obtain ⟨t, ht, hj⟩ := hbody cdv A outer s H E hr
  refine ⟨t, ht, fun vs a hd ha Q hq => ?_⟩
  obtain ⟨Γ', C, hJ, hC⟩ := hj a hd
  have e : L2.start N vs = vs.map some ++ List.replicate (N.length - (S.ts a).length) none := by unfold L2.start; rw [ha.length]
  rw [e]
  exact hJ H _ H (jm_args ha _) _ (fun c σ' H' f' ty' => hq _ H' ty'.same (hC c H')) fun v H' e' p => hq v H' e' p
end Ost
set_option Elab.async false
set_option linter.all false
set_option maxRecDepth 100000
set_option maxHeartbeats 4000000
/-! K8: several names at once; comprehensions of two clauses; calls that hand back new lists. -/
namespace Ost
open PySem PySem.Spec PyProof.Rows L2
open C8 (Cal pe_c Mak pe_mk Met pe_gc)

/-- a value for a name of a body with own things -/
def Jmv (Γ : Mm) (te : TE) (t : MT) : Prop := ∀ H0 σ H, TyM H0 Γ σ H → ∀ Q : VK, (∀ v H1, Same H H1 → t.P H0 v H1 → (t.isOwn = true → ∃ l, v = .ref l ∧ H l = none) → Q v H1) → te σ H Q
section
variable {Γ : Mm} {ta tb tc te : TE} {R : VT} {t1 t2 t3 : MT} {d : PyData} {ds : List PyData} {i j l : Nat}
theorem mv_dat (h : Jd (vtG Γ) te (dt d)) (n : noL d = true) : Jmv Γ te (.dat d) := fun H0 σ H ty Q k => h σ H ty.ty _ fun v H1 e p => k v H1 e ⟨n, p⟩ fun z => by cases z
theorem mv_own (h : Jf (vtG Γ) te ds) (n : noLs ds = true) : Jmv Γ te (.own ds) := fun H0 σ H ty Q k => h σ H ty.ty _ fun a vs H1 e hn h1 h2 => k _ H1 e ⟨n, a, vs, rfl, ty.same.free hn, h1, h2⟩ fun _ => ⟨a, rfl, hn⟩
theorem mv_dic : Jmv Γ tDNewT (.dic []) := fun H0 σ H ty Q k => fun a hn => k _ _ (same_upd hn) ⟨rfl, a, [], rfl, ty.same.free hn, upd_same, rfl, TpAll.nil⟩ fun _ => ⟨a, rfl, hn⟩
theorem put_mv {H0 : Hp} {σ : L2.St} {H H1 : Hp} {v : V} {t : MT} (ty : TyM H0 Γ σ H) (e : Same H H1) (p : t.P H0 v H1) (n : t.isOwn = true → ∃ l, v = .ref l ∧ H l = none) : TyM H0 (Γ.set i (some t)) (σ.set i (some v)) H1 ∧ Fra Γ σ H (Γ.set i (some t)) (σ.set i (some v)) H1 := by
  refine ⟨(ty.mono e).put i p fun so k s _ hs su => ?_, fun a o h no f => ⟨e.obj a o h no, f.put fun so z => ?_⟩⟩
  · obtain ⟨a, rfl, hn⟩ := n so
    exact new_ne ty hn k s hs su
  · obtain ⟨a', rfl, hn⟩ := n so
    cases z
    rw [hn] at h
    cases h
theorem jm_asgV (h : Jmv Γ te t1) : Jm Γ (tAsg te (gName i)) (Γ.set i (some t1)) True R := fun H0 σ H ty D k r => h H0 σ H ty _ fun v H1 e p n => by
  obtain ⟨a, b⟩ := put_mv (i := i) ty e p n
  exact k trivial _ H1 b a
theorem jm_par2 (h1 : Jmv Γ ta t1) (h2 : Jmv Γ tb t2) : Jm Γ (tPar i j (tCons ta (tCons tb tNil))) ((Γ.set i (some t1)).set j (some t2)) True R := fun H0 σ H ty D k r =>
  h1 H0 σ H ty _ fun v H1 e1 p1 n1 => h2 H0 σ H1 (ty.mono e1) _ fun u H2 e2 p2 n2 => by
    obtain ⟨a1, b1⟩ := put_mv (i := i) ty e1 p1 n1
    obtain ⟨a2, b2⟩ := put_mv (i := j) a1 e2 p2 n2
    exact ⟨v, u, rfl, k trivial _ H2 (b1.trans b2) a2⟩
theorem jm_par3 (h1 : Jmv Γ ta t1) (h2 : Jmv Γ tb t2) (h3 : Jmv Γ tc t3) : Jm Γ (tPar3 i j l (tCons ta (tCons tb (tCons tc tNil)))) (((Γ.set i (some t1)).set j (some t2)).set l (some t3)) True R := fun H0 σ H ty D k r =>
  h1 H0 σ H ty _ fun v H1 e1 p1 n1 => h2 H0 σ H1 (ty.mono e1) _ fun u H2 e2 p2 n2 => h3 H0 σ H2 ((ty.mono e1).mono e2) _ fun x H3 e3 p3 n3 => by
    obtain ⟨a1, b1⟩ := put_mv (i := i) ty e1 p1 n1
    obtain ⟨a2, b2⟩ := put_mv (i := j) a1 e2 p2 n2
    obtain ⟨a3, b3⟩ := put_mv (i := l) a2 e3 p3 n3
    exact ⟨v, u, x, rfl, k trivial _ H3 ((b1.trans b2).trans b3) a3⟩
end

/-! ### two clauses -/
section
variable {Γ : Gm} {te : TE} {vs : List Nat}
theorem take_flat {α β : Type} {f : α → List β} {xs : List α} {i : Nat} {a : α} (h : xs[i]? = some a) : (xs.take (i + 1)).flatMap f = (xs.take i).flatMap f ++ f a := by
  rw [take_snoc h, List.flatMap_append, List.flatMap_cons, List.flatMap_nil, List.append_nil]
/-- [q a b for a in rows for b in range(lo a, hi)] -/
theorem jf_lc2 {K : PySem.W.Frag} {tl : TE} {ta : TA} {α : Type} {xs : List α} {Y : α → PyData} {j0 j1 : Nat} {lo : α → Int} {hi : Int} {q : α → Int → PyData} (hs : Jd Γ tl (dt (.list (xs.map Y)))) (hv : j0 ∈ vs ∧ j1 ∈ vs)
    (ha : ∀ a ∈ xs, Ja ((wipeG Γ vs).set j0 (some (dt (Y a)))) ta [dt (.int (lo a)), dt (.int hi)]) (hb : ∀ a ∈ xs, 0 ≤ lo a ∧ lo a ≤ 100000) (hh : 0 ≤ hi ∧ hi ≤ 100000)
    (he : ∀ a ∈ xs, ∀ b ∈ rgI (lo a) (hi - lo a).toNat, Jd (((wipeG ((wipeG Γ vs).set j0 (some (dt (Y a)))) [j1])).set j1 (some (dt (.int b)))) te (dt (q a b)))
    (hn : (xs.flatMap fun a => (rgI (lo a) (hi - lo a).toNat).map (q a)).length ≤ 1000) (hq : ∀ a b, noL (q a b) = true) (hY : ∀ a, noL (Y a) = true) :
    Jf Γ (tLc2 (iSeq K tl) (gName j0) tYes (iRng2 ta) (gName j1) tYes te vs [j1]) (xs.flatMap fun a => (rgI (lo a) (hi - lo a).toNat).map (q a)) := fun σ H ty Q k => by
  refine .inl (hs σ H ty _ fun v H1 e1 p => ?_)
  obtain ⟨l, us, rfl, hl, hu⟩ := of_lst p
  have ln : us.length = xs.length := by rw [hu.length, List.length_map]
  refine ⟨l, rfl, ⟨us, SqL.of hl⟩, fun D hD => ?_⟩
  have lD : l ≠ D := ne_of_none hl hD
  have ty1 := ty.mono e1
  -- the list so far
  let Ls : List PyData → Hp → Prop := fun ds H' => Same H1 H' ∧ ∃ ls, H' D = some (.lst ls) ∧ TpAll H' ds ls
  have f : ∀ i, i ≤ xs.length → ((xs.take i).flatMap fun a => (rgI (lo a) (hi - lo a).toNat).map (q a)).length ≤ 1000 := fun i hi' => by
    have e : xs.flatMap (fun a => (rgI (lo a) (hi - lo a).toNat).map (q a)) = (xs.take i).flatMap (fun a => (rgI (lo a) (hi - lo a).toNat).map (q a)) ++ (xs.drop i).flatMap (fun a => (rgI (lo a) (hi - lo a).toNat).map (q a)) := by rw [← List.flatMap_append, List.take_append_drop]
    rw [e, List.length_append] at hn
    omega
  have nls : ∀ i (c : α) j, noLs ((xs.take i).flatMap (fun a => (rgI (lo a) (hi - lo a).toNat).map (q a)) ++ ((rgI (lo c) (hi - lo c).toNat).take j).map (q c)) = true := fun i c j => noLs_of fun d hd => by
    rcases List.mem_append.mp hd with hd | hd
    · obtain ⟨a, _, hd⟩ := List.mem_flatMap.mp hd
      obtain ⟨b, _, rfl⟩ := List.mem_map.mp hd
      exact hq a b
    · obtain ⟨b, _, rfl⟩ := List.mem_map.mp hd
      exact hq c b
  refine ⟨fun i m H' => m = xs.length - i ∧ i ≤ xs.length ∧ Ls ((xs.take i).flatMap fun a => (rgI (lo a) (hi - lo a).toNat).map (q a)) H', ⟨xs.length, by simp, Nat.zero_le _, same_upd hD, [], upd_same, TpAll.nil⟩, ?_⟩
  rintro i m Ha ⟨rfl, hle, e, ls, hls, hp⟩
  have hla : Ha l = some (.lst us) := e.get hl
  by_cases hlt : i < xs.length
  · refine .inr ⟨⟨us, us[i]'(by omega), SqL.of hla, by simp [ln, hlt]⟩, fun H' => Ls ((xs.take (i + 1)).flatMap fun a => (rgI (lo a) (hi - lo a).toNat).map (q a)) H', fun H' p' => ⟨xs.length - (i + 1), by omega, rfl, hlt, p'⟩, fun x Hb y => ?_⟩
    obtain ⟨rfl, hx⟩ := y
    obtain ⟨d, hd, pd⟩ := hu.got (hx us (SqL.of hla))
    obtain ⟨a, ha', rfl⟩ := map_at hd
    have ma : a ∈ xs := List.mem_of_getElem? ha'
    have wv : L2.wipe ((L2.wipe σ vs).set j0 (some x)) vs = L2.wipe σ vs := (wipe_same (by rw [List.length_set]) fun m hm => List.getElem?_set_ne (fun z => hm (z ▸ hv.1))).trans (wipe_wipe σ vs)
    have tyx : Ty ((wipeG Γ vs).set j0 (some (dt (Y a)))) ((L2.wipe σ vs).set j0 (some x)) H1 := (ty1.wipe vs).set j0 (t := dt (Y a)) pd
    refine ⟨wv, yes_go (iteT (ha a ma _ Hb (tyx.mono e) _ fun ws H4 e4 pw => ?_))⟩
    match ws, pw with
    | [w1, w2], pw =>
      rw [of_int pw.1, of_int pw.2.1]
      have hb' := hb a ma
      refine ⟨lo a, hi, rfl, ⟨by omega, by omega, by omega, by omega⟩, ?_⟩
      refine ⟨fun j k H' => k = (hi - lo a).toNat - j ∧ j ≤ (hi - lo a).toNat ∧ Ls ((xs.take i).flatMap (fun a => (rgI (lo a) (hi - lo a).toNat).map (q a)) ++ ((rgI (lo a) (hi - lo a).toNat).take j).map (q a)) H', ⟨(hi - lo a).toNat, by simp, Nat.zero_le _, e.trans e4, ls, e4.get hls, by simpa using TpAll.mono e4 _ _ hp⟩, ?_⟩
      rintro j k Hc ⟨rfl, hj, ec, lc, hlc, hpc⟩
      by_cases hjt : j < (hi - lo a).toNat
      · refine .inr ⟨hjt, fun H' => Ls ((xs.take i).flatMap (fun a => (rgI (lo a) (hi - lo a).toNat).map (q a)) ++ ((rgI (lo a) (hi - lo a).toNat).take (j + 1)).map (q a)) H', fun H' p' => ⟨(hi - lo a).toNat - (j + 1), by omega, rfl, hjt, p'⟩, fun x1 Hd y1 => ?_⟩
        obtain ⟨rfl, rfl⟩ := y1
        have hbj : (rgI (lo a) (hi - lo a).toNat)[j]? = some (lo a + (j : Int)) := rgI_at hjt
        have ty3 : Ty ((wipeG ((wipeG Γ vs).set j0 (some (dt (Y a)))) [j1]).set j1 (some (dt (.int (lo a + (j : Int)))))) ((L2.wipe ((L2.wipe σ vs).set j0 (some x)) [j1]).set j1 (some (.int (lo a + (j : Int))))) Hd := ((tyx.mono ec).wipe [j1]).set j1 (t := dt (.int _)) (dt_int _)
        refine ⟨(wipe_same (by rw [List.length_set]) fun m hm => List.getElem?_set_ne (by simp at hm; omega)).trans (wipe_wipe _ [j1]), yes_go (iteT (he a ma _ (List.mem_of_getElem? hbj) _ Hd ty3 _ fun v5 H5 e5 p5 => ?_))⟩
        have hl5 : H5 D = some (.lst lc) := e5.get hlc
        have hlen : lc.length < sizeLine := by
          rw [hpc.length, List.length_append, List.length_map, List.length_take]
          have h1 := f (i + 1) hlt
          rw [take_flat ha', List.length_append, List.length_map] at h1
          exact small1000 (by omega)
        have kp := Tups.lst (o := .lst (lc ++ [v5])) hl5
        refine ⟨lc, hl5, hlen, same_mut (ec.trans e5) hD (nocode_lst hl5), lc ++ [v5], upd_same, ?_⟩
        rw [take_snoc hbj, List.map_append, ← List.append_assoc]
        exact (TpAll.keep kp _ _ (nls i a j) (TpAll.mono e5 _ _ hpc)).snoc (Tp.keep kp _ _ (hq _ _) p5)
      · have ej : j = (hi - lo a).toNat := by omega
        refine .inl ⟨by show (hi - lo a).toNat ≤ j; omega, ec, lc, hlc, ?_⟩
        rw [take_flat ha']
        subst ej
        have e9 : (rgI (lo a) (hi - lo a).toNat).take (hi - lo a).toNat = rgI (lo a) (hi - lo a).toNat := List.take_of_length_le (by rw [rgI_len]; exact Nat.le_refl _)
        rw [e9] at hpc
        exact hpc
  · have ei : i = xs.length := by omega
    subst ei
    refine .inl ⟨⟨us, SqL.of hla, by omega⟩, ?_⟩
    rw [List.take_of_length_le (Nat.le_refl _)] at hp
    exact k D ls Ha (e1.trans e) (e1.free hD) hls hp
end
end Ost
set_option Elab.async false
set_option linter.all false
set_option maxRecDepth 100000
set_option maxHeartbeats 4000000
/-! K9: enumerate over a tuple. -/
namespace Ost
open PySem PySem.Spec PyProof.Rows L2
open C8 (Cal pe_c Mak pe_mk Met pe_gc)

/-! ### enumerate over whatever begins -/
theorem enumT_new {src : Value} {ob : Obj} {Hh : Heap → Prop} (B : Begins src ob Hh) : Meets (Builtin.«enumerate.__new__» ⟨[.type "enumerate", src], []⟩)
    (fun _ Rr sh => Hh sh.heap ∧ Rr (.ok (.ret (.ref (sh.heap.push ob).objs.size))) { sh with heap := (sh.heap.push ob).push ⟨.type "enumerate", .none, .fields #[.none, .bool false, .ref sh.heap.objs.size, rawInt 0, .none, .none], #[]⟩ }) :=
  .of_wp fun _ _ A _ sh hh => by
    obtain ⟨hv, gg, dd, tt, oo⟩ := sh
    obtain ⟨b1, hh⟩ := hh
    have sub1 := sub_enumerate
    have it1 : ∀ {pr : Program} {wl : World} {B' : Around} {En : Value → Shared → Prop} {Qn : Value → Shared → Prop}, Qn (.ref hv.objs.size) ⟨hv.push ob, gg, dd, tt, oo⟩ → wpAny (model pr wl) B' (pyIter src) Qn En ⟨hv, gg, dd, tt, oo⟩ := fun z => B.iter _ _ _ _ ⟨hv, gg, dd, tt, oo⟩ _ b1 z
    wp_walk using it1
    refine wpAny_stack_any fun _ => wpAny_pure ?_
    split
    · rename_i cc _ _ _ _ _
      cases (cc == Value.type "enumerate") <;>
      · wp_walk using it1
        exact ⟨_, rfl, hh⟩
    · wp_walk using it1
      exact ⟨_, rfl, hh⟩
section
variable {prog : Program} {w : World} {A : Around} {E : Value → Shared → Prop}
theorem enumT_begins {sh : Shared} {src : Value} {ob : Obj} {Hh : Heap → Prop} {Q : Value → Shared → Prop} (B : Begins src ob Hh) (b1 : Hh sh.heap)
    (k : ∀ hp, IsEnum hp (sh.heap.objs.size + 1) sh.heap.objs.size 0 .none → hp.get? sh.heap.objs.size = some ob → (∀ c u, sh.heap.get? c = some u → hp.get? c = some u) → Q (.ref (sh.heap.objs.size + 1)) { sh with heap := hp }) :
    wpAny (model prog w) A (call (.type "enumerate") [src]) Q E sh := by
  refine callType_new F.called_enumerate (by decide) (F.typeCall_enumerate_1 _) (F.newCall_enumerate_1 _) (fun ob1 => F.args_object_init_2 ob1 _) F.entry_enumerate_new (enumT_new B) ⟨b1, ?_⟩
  have sz : (sh.heap.push ob).objs.size = sh.heap.objs.size + 1 := Heap.size_push ..
  have isE : IsEnum ((sh.heap.push ob).push ⟨.type "enumerate", .none, .fields #[.none, .bool false, .ref sh.heap.objs.size, rawInt 0, .none, .none], #[]⟩) (sh.heap.objs.size + 1) sh.heap.objs.size 0 .none := by
    rw [← sz]
    exact Heap.get?_push_size _ rfl
  show _ ∧ _
  rw [sz]
  exact ⟨⟨_, isE, rfl⟩, k _ isE (Heap.get?_push_of_some _ (Heap.get?_push_size _ B.free)) fun c u z => Heap.get?_push_of_some _ (Heap.get?_push_of_some _ z)⟩
end
/-- the tuple at a, each item behind its place in a new pair -/
def Itet (K : PySem.W.Frag) (a : Addr) : It :=
  ⟨fun i H => ∃ (us : List V) (y : V), SqT K H a us ∧ us[i]? = some y, fun i H v H' => ∃ t y, v = .ref t ∧ H t = none ∧ H' = upd H t (.tup [.int (i : Nat), y]) ∧ ∀ us, SqT K H a us → us[i]? = some y, fun i H => ∃ us : List V, SqT K H a us ∧ us.length ≤ i⟩
theorem turn_enumT {P : Program} {w : World} {K : PySem.W.Frag} {elts : List Expr} {kk : Nat} {tpos : Pos} (a e it : Addr) :
    Turn P w K (.Tuple elts kk tpos) (Itet K a) [e, it] e (fun i hp => (∃ old, IsEnum hp e it ((i : Nat) : Int) old) ∧ hp.IsTupleIter it a i ∧ e ≠ it) where
  mem := List.mem_cons_self ..
  obj := fun i hp st b hb => by
    obtain ⟨⟨old, h1⟩, ⟨ob, h2, h3, h4⟩, _⟩ := st
    rcases List.mem_cons.mp hb with rfl | hb
    · exact ⟨_, h1, fun v q => nomatch q⟩
    · rw [List.mem_singleton.mp hb]
      exact ⟨ob, h2, fun v q => by rw [h4] at q; cases q⟩
  keep := fun i hp hp' st k => by
    obtain ⟨⟨old, h1⟩, h2, h3⟩ := st
    exact ⟨⟨old, k e (by simp) _ h1⟩, h2.at fun ob q => k it (by simp) ob q, h3⟩
  item := by
    intro X hP hw hK hc i pins sh σ H E I hf st go
    subst hP hw hK
    obtain ⟨⟨old, h1⟩, h2, h3⟩ := st
    obtain ⟨us, y, hq, hx⟩ := go
    obtain ⟨its, rv, pt, hz⟩ := I.tuple hq
    have pt : sh.heap.IsTuple a its.toArray := pt
    obtain ⟨u, hu, ru⟩ := rv.get hx
    have hu' : its.toArray[i]? = some u := by simpa using hu
    have lt1 : e < sh.heap.objs.size := Heap.lt_size h1
    have ai : a ≠ it := fun z => by
      obtain ⟨o1, q1, q2, _⟩ := h2
      obtain ⟨o2, q3, q4, _⟩ := pt
      rw [z, q1] at q3
      cases q3
      rw [q2] at q4
      exact absurd (Value.type.inj q4) (by decide)
    have ea : e ∉ [it, a] := fun hm => by
      rcases List.mem_cons.mp hm with z | hm
      · exact h3 z
      · have z := List.mem_singleton.mp hm
        obtain ⟨o2, q3, q4, _⟩ := pt
        have h1' : sh.heap.get? a = _ := z ▸ h1
        rw [h1'] at q3
        cases q3
        exact absurd (Value.type.inj q4) (by decide)
    have hil : i < its.toArray.size := (Array.getElem?_eq_some_iff.mp hu').1
    refine wpAny_pyNext_enum_itemC (Draws.tuple (A := X.A.in1) (show X.A.in1.handled = none from I.ok.hd hc) it a ai its.toArray) h1 ⟨h2, pt⟩ hil h3 ea fun x hp tk px ho st1 hT hsz hk => ?_
    have exu : x = u := Option.some.inj (px.symm.trans hu')
    subst exu
    refine ⟨_, rfl, wpAny_letOwnedTupleGo_enum (s := { sh with heap := hp, toks := tk + 1 }) ho fun hp2 he2 sb => ?_⟩
    have hT2 : hp2.get? sh.heap.objs.size = some ⟨.type "tuple", .none, .seq #[.int i tk, x] 0, #[]⟩ := (sb.2 _ (Nat.ne_of_gt lt1)).trans hT
    have new : ObjOk X.prog X.w (upd H sh.heap.objs.size (.tup [.int (i : Nat), y])) hp2 sh.heap.objs.size (.tup [.int (i : Nat), y]) :=
      ⟨by show 2 ≤ sizeLine; decide, [.int i tk, x], .cons ⟨_, rfl⟩ (.cons ru .nil), ⟨_, hT2, rfl, _, rfl⟩⟩
    have I2 : Inv X pins σ (upd H sh.heap.objs.size (.tup [.int (i : Nat), y])) { sh with heap := hp2, toks := tk + 1 } :=
      I.turnedNew (ch := [e, it]) (fun b ob hb q => (sb.2 b (fun z => hb (by simp [z]))).trans (hk b ob (fun z => hb (by simp [z])) (fun z => hb (by simp [z])) q)) hf (Nat.le_refl _) new
    refine ⟨.ref sh.heap.objs.size, _, I2, rfl, ⟨_, y, rfl, I.hok.fresh (Nat.le_refl _), rfl, fun ys hy => by rw [I.tuple_inj hy hq]; exact hx⟩, ⟨⟨x, ?_⟩, st1.1.at fun ob q => (sb.2 it (Ne.symm h3)).trans q, h3⟩, fun b hb => ?_⟩
    · rw [show ((i + 1 : Nat) : Int) = (i : Int) + 1 by omega]
      exact he2
    · have hb' : b < sh.heap.objs.size := by
        rcases List.mem_cons.mp hb with z | hb
        · rw [z]; exact lt1
        · rw [List.mem_singleton.mp hb]
          obtain ⟨_, q, _⟩ := h2
          exact Heap.lt_size q
      rw [upd_ne (Nat.ne_of_lt hb')]
      exact (hf b hb).1
  done := by
    intro X hP hw hK hc i pins sh σ H E I hf st stop
    subst hP hw hK
    obtain ⟨⟨old, h1⟩, h2, h3⟩ := st
    obtain ⟨us, hq, hx⟩ := stop
    obtain ⟨its, rv, pt, hz⟩ := I.tuple hq
    have pt : sh.heap.IsTuple a its.toArray := pt
    obtain ⟨f0, f1, f2, f3, f4, f5⟩ := hf it (by simp)
    have hl := rv.length
    have hT : sh.TypeIs (.ref e) "enumerate" := ⟨_, h1, rfl⟩
    unfold pyNext
    refine wpAny_bind (wpAny_attempt (wpAny_callSpecial?_slot (name := Str.ofString "__next__") hT F.slot_enumerate_next (wpAny_call_entry F.slot_enumerate_next hT F.entry_enumerate_next ?_ (F.args_enumerate_next_1 _))))
    show wpAny _ _ (field (.ref e) 2 >>= _) _ _ _
    refine wpAny_bind (wpAny_field h1 rfl (x := .ref it) rfl (wpAny_bind (wpAny_nextOf_tuple_end (show X.A.in1.in1.handled = none from I.ok.hd hc) h2 pt (by simp; omega) fun hp ex eb hc2 => ?_)))
    obtain ⟨o1, q1, q2⟩ := hc2
    exact wpAny_bind (wpAny_isInstance (T := "StopIteration") (b := true) ⟨o1, q1, q2⟩ isSubtype_stop (wpAny_pure ⟨rfl, I.turned (t' := sh.toks) (fun b o hb q => eb b o hb q) f0 f1 f3 f4 f5⟩))
  self := fun A i sh Q E st k => by
    obtain ⟨⟨_, h1⟩, _⟩ := st
    exact wpAny_pyIter_enum h1 k
def iEnumT (K : PySem.W.Frag) (ta : TA) : TI := fun σ H R => ta σ H fun vs H1 => ∃ a us, vs = [.ref a] ∧ SqT K H1 a us ∧ R (Itet K a) H1
theorem pi_enumT {X : Cx} {e : Expr} {ta : TA} {p pos tpos : Pos} {elts : List Expr} {kk : Nat} (hg : Gl X "enumerate") (hm : X.mg "enumerate" = none) (ha : PA X [e] ta) (hs : starEach [e] X.env = [(false, eval e X.env)] := by rfl) :
    PI X (.Tuple elts kk tpos) (.Call (.Name "enumerate" p) [e] [] pos) (iEnumT X.K ta) := by
  refine ⟨fun pins s0 σ H R I h => Call_ (ld_blt I hg hm boot_enumerate (PyProof.Rows.callWith_type1 (thn (ha.run pos pins s0 σ H _ I h) fun us s1 ⟨vs, H1, I1, r1, a, xs, ex, hq, q⟩ => ?_) hs rfl))⟩
  subst ex
  cases r1 with
  | cons r rr =>
    cases rr
    cases r
    obtain ⟨its, rv, pt, hz⟩ := I1.tuple hq
    refine enumT_begins (begins_tuple a its.toArray) pt fun hp he hit hk => wpAny_pyIter_enum he ?_
    have I2 : Inv X pins σ H1 { s1 with heap := hp } := I1.kept (t' := s1.toks) hk
    refine ⟨s1.heap.objs.size + 1, [s1.heap.objs.size + 1, s1.heap.objs.size], _, _, H1, rfl, I2, turn_enumT a (s1.heap.objs.size + 1) s1.heap.objs.size, ⟨⟨.none, he⟩, ⟨_, hit, rfl, rfl⟩, Nat.succ_ne_self _⟩, fun b hb => ?_, q⟩
    have le1 : s1.heap.objs.size ≤ b := by
      rcases List.mem_cons.mp hb with z | hb
      · rw [z]; exact Nat.le_add_right _ _
      · rw [List.mem_singleton.mp hb]; exact Nat.le_refl _
    exact I1.fpOk le1 (I1.hok.fresh le1)
def iEnumA (K : PySem.W.Frag) (ta : TA) : TI := fun σ H R => iEnum K ta σ H R ∨ iEnumT K ta σ H R
theorem pi_enumA {X : Cx} {K : PySem.W.Frag} (hK : X.K = K) {e : Expr} {ta : TA} {p pos tpos : Pos} {elts : List Expr} {kk : Nat} (hg : Gl X "enumerate") (hm : X.mg "enumerate" = none) (ha : PA X [e] ta) (hs : starEach [e] X.env = [(false, eval e X.env)] := by rfl) :
    PI X (.Tuple elts kk tpos) (.Call (.Name "enumerate" p) [e] [] pos) (iEnumA K ta) := by
  subst hK
  exact pi_or (pi_enum hg hm ha hs) (pi_enumT hg hm ha hs)
theorem walk_enumT {K : PySem.W.Frag} {a : Addr} {xs : List V} : Walk (Itet K a) xs.length (fun H => SqT K H a xs) (YPair (fun i => some (.int (i : Nat))) (fun i => xs[i]?)) := by
  refine ⟨fun i _ hi q => ⟨xs, xs[i], q, by simp [hi]⟩, fun _ q => ⟨xs, q, Nat.le_refl _⟩, fun i H v H' _ q y => ?_⟩
  obtain ⟨t, y, h1, h2, h3, h4⟩ := y
  exact ⟨t, .int (i : Nat), y, h1, h2, h3, rfl, h4 xs q⟩

/-! ### walks that no writing of one's own disturbs -/
def JiT {α : Type} (Γ : Gm) (wi : TI) (xs : List α) (Y : α → PyData) : Prop := ∀ σ H, Ty Γ σ H → ∀ R : It → Hp → Prop,
  (∀ (J : It) (H1 : Hp) (G : Hp → Prop) (Yw : Nat → Hp → V → Hp → Prop), Same H H1 → Walk J xs.length G Yw → G H1 → (∀ Ha Hb, Tups Ha Hb → G Ha → G Hb) →
    (∀ i Ha x Hb, Tups H1 Ha → G Ha → i < xs.length → Yw i Ha x Hb → ∃ a, xs[i]? = some a ∧ Same Ha Hb ∧ Tp Hb (Y a) x) → R J H1) → wi σ H R
theorem JiT.ji {α : Type} {Γ : Gm} {wi : TI} {xs : List α} {Y : α → PyData} (h : JiT Γ wi xs Y) : Ji Γ wi xs fun a => dt (Y a) := fun σ H ty R k => h σ H ty R fun J H1 G Yw e W g gm gy => k J H1 G Yw e W g (fun Ha Hb q => gm Ha Hb (Tups.of q)) fun i Ha x Hb q => gy i Ha x Hb (Tups.of q)
theorem jt_enum {α : Type} {Γ : Gm} {K : PySem.W.Frag} {te : TE} {xs : List α} {D : α → PyData} (h : Jd Γ te (dt (.tuple (xs.map D)))) (n : ∀ a ∈ xs, noL (D a) = true) : JiT Γ (iEnumA K (tCons te tNil)) xs.zipIdx fun p => .tuple [.int (p.2 : Int), D p.1] := fun σ H ty R k => by
  refine .inr (h σ H ty _ fun v H1 e1 p => ?_)
  obtain ⟨a, us, rfl, h1, h2⟩ := of_tup p
  have hlen : us.length = xs.zipIdx.length := by rw [h2.length, List.length_map, List.length_zipIdx]
  have nls : noLs (xs.map D) = true := noLs_of fun d hd => by obtain ⟨b, hb, rfl⟩ := List.mem_map.mp hd; exact n b hb
  refine ⟨a, us, rfl, SqT.of h1, k (Itet K a) H1 (fun H => H a = some (.tup us)) (YPair (fun i => some (.int (i : Nat))) (fun i => us[i]?)) e1 (hlen ▸ walk_enumT.mono (fun H z => SqT.of z) fun i H x H' _ _ y => y) h1 (fun Ha Hb e z => e a _ z) fun i Ha x Hb e z hi y => ?_⟩
  obtain ⟨t, u, y, rfl, hn, rfl, hu, hy⟩ := y
  cases hu
  obtain ⟨d, hd, pd⟩ := h2.got hy
  obtain ⟨b, hb, rfl⟩ := map_at hd
  have sm : Same Ha (upd Ha t (.tup [.int (i : Nat), y])) := same_upd hn
  refine ⟨(b, i), by rw [List.getElem?_zipIdx, hb]; simp, sm, tp_tuple.mpr ⟨t, _, rfl, upd_same, TpAll.cons (tp_int.mpr rfl) (TpAll.one (Tp.mono sm _ _ (Tp.keep e _ _ (n b (List.mem_of_getElem? hb)) pd)))⟩⟩
theorem jm_forT {α : Type} {Γs : Nat → Mm} {R : VT} {wi : TI} {g : TG} {tb : TS} {xs : List α} {Y : α → PyData} {bd : α → Mm → Mm} {C : Nat → Prop} (hs : JiT (vtG (Γs 0)) wi xs Y) (hn : ∀ a ∈ xs, noL (Y a) = true) (hg : Tm g Y bd) (c0 : C 0)
    (hb : ∀ i a, xs[i]? = some a → C i → Jm (bd a (Γs i)) tb (Γs (i + 1)) (C (i + 1)) R) : Jm (Γs 0) (tFor wi g tb) (Γs xs.length) (C xs.length) R := fun H0 σ H ty D k r => by
  refine hs σ H ty.ty _ fun J H1 G Yw e1 W g1 gm gy => ?_
  refine for_it W (fun i σ' H' => C i ∧ Fra (Γs 0) σ H (Γs i) σ' H' ∧ TyM H0 (Γs i) σ' H' ∧ Tups H1 H' ∧ G H') ⟨c0, Fra.same e1, ty.mono e1, Tups.refl _, g1⟩ (fun i σ' H' _ q => q.2.2.2.2) (fun i x σ' Ha Hb hlt ⟨c, f', ty', t', g'⟩ hy => ?_) fun σ' H' ⟨c, f', ty', _⟩ => k c σ' H' f' ty'
  obtain ⟨a, ha, sm, pa⟩ := gy i Ha x Hb t' g' hlt hy
  refine hg H0 _ a x σ' Hb _ (ty'.mono sm) pa (hn a (List.mem_of_getElem? ha)) fun σ2 f2 ty2 => hb i a ha c H0 σ2 _ ty2 _ (fun c3 σ3 H3 f3 ty3 => ?_) r
  have tu : Tups Ha H3 := (Tups.of sm).trans ((f2.trans f3).tups (ty'.mono sm))
  exact ⟨c3, ((f'.trans (Fra.same sm)).trans f2).trans f3, ty3, t'.trans tu, gm _ _ tu g'⟩
end Ost
set_option Elab.async false
set_option linter.all false
set_option maxRecDepth 100000
set_option maxHeartbeats 4000000
/-! K10: a set made of the ints of a comprehension. -/
namespace Ost
open PySem PySem.Spec PyProof.Rows L2
open C8 (Cal pe_c Mak pe_mk Met pe_gc)
open PpSet (eval_SetComp newSet_ok compLoopS_any codeAny_compStart_set)
/-- one more int in a set of one's own -/
def sPut (w : World) (D : Addr) (y : V) (H : Hp) (k : Hp → Prop) : Prop := ∃ (j : Int) (M : Int → Bool) (z : Nat), y = .int j ∧ H D = some (SetO w D M z) ∧ z + 1 < scanBound ∧ k (upd H D (SetO w D (fun i => M i || decide (i = j)) (if M j = true then z else z + 1)))
def tScI (w : World) (wi : TI) (g : TG) (tt : TT) (te : TE) (vs : List Nat) : TE := fun σ H Q => wi σ H fun J H1 => ∀ D, H1 D = none → ∃ Wv : Nat → Nat → Hp → Prop, (∃ m, Wv 0 m (upd H1 D (SetO w D (fun _ => false) 0))) ∧ ∀ i m Hi, Wv i m Hi →
  (J.stop i Hi ∧ Q (.ref D) Hi) ∨ (J.go i Hi ∧ ∃ Nx : Hp → Prop, (∀ Hn, Nx Hn → ∃ l, l < m ∧ Wv (i + 1) l Hn) ∧ ∀ x Hx, J.yld i Hi x Hx → g x (wipe σ vs) Hx fun σg Hg => wipe σg vs = wipe σ vs ∧ tt σg Hg fun b Ht =>
    if b = true then te σg Ht fun y He => sPut w D y He Nx else Nx Ht)
theorem sput_ok {X : Cx} {pn : List (Addr × Obj)} {σ : L2.St} {H : Hp} {sh : Shared} {En : Value → Shared → Prop} {D : Addr} {yv : Value} {y : V} {Q : Value → Shared → Prop} {Nx : Hp → Prop} (I : Inv X pn σ H sh) (r : RelV y yv) (p : sPut X.w D y H Nx)
    (k : ∀ Hn sn, Inv X pn σ Hn sn → Nx Hn → Q .none sn) : wpAny (model X.prog X.w) X.A (call (.builtin "set.add") [.ref D, yv]) Q En sh := by
  obtain ⟨j, M, z, rfl, hD, room, nx⟩ := p
  obtain ⟨tk, rfl⟩ := r
  have R := setO_get I hD
  refine setR_add R room fun hn sb new => ?_
  have live : ∃ u, hn.get? D = some u := by
    obtain ⟨ob, _, _, _, e, _⟩ := id new
    exact ⟨ob, e⟩
  exact k _ _ (I.write (e := D) (t' := sh.toks + 1) (by rw [hD]; trivial) (.inl rfl) (fun b u hb hu => (sb.2 b hb).trans hu) live (setO_new new)) nx
section
variable {X : Cx}
theorem pe_scI {K : PySem.W.Frag} {w : World} (hw : X.w = w) {elt tg iter : Expr} {ifs : List Expr} {scope : Scope} {own : List (PySem.Str × Nat)} {pos : Pos} {wi : TI} {g : TG} {tt : TT} {te : TE} (calm : X.calm = true) (nd : X.N.Nodup) (pit : PI X tg iter wi) (blk : BlkOk X.N X.env.scope scope own)
    (ptg : ∀ (sb : Shared) (Hb : Hp) (C : Addr) (cl : List (PySem.Str × Addr)) (fp : List Addr), PG (X.blk sb Hb scope (compEnvC scope cl C X.env) fp) tg g) (pts : ∀ (sb : Shared) (Hb : Hp) (C : Addr) (cl : List (PySem.Str × Addr)) (fp : List Addr), PTs (X.blk sb Hb scope (compEnvC scope cl C X.env) fp) ifs tt)
    (pel : ∀ (sb : Shared) (Hb : Hp) (C : Addr) (cl : List (PySem.Str × Addr)) (fp : List Addr), PE (X.blk sb Hb scope (compEnvC scope cl C X.env) fp) elt te) (fold : ∀ x, foldedSetIterable iter X.env x = pure x := by intro _; rfl) :
    PE X (.SetComp elt [⟨tg, iter, ifs, 0⟩] scope pos) (tScI w wi g tt te (own.map (·.2))) := by
  subst hw
  refine ⟨fun pn s0 σ H Q I0 h => ?_⟩
  rw [eval_SetComp]
  have free : ∀ y ∈ scope.names, y.2 = .free → ∃ c, X.env.cells.lookup y.1 = some c := fun y hy e => (blk.free y hy e).elim (fun z => I0.ok.has _ (.inl z)) fun z => I0.ok.has _ (.inr z)
  refine wpAny_comprehension_free (use := none) rfl fold (closure_ok free) blk.kind (fun y hy e => by rw [blk.uniq y hy, e]) (thn (pit.run pn s0 σ H _ I0 h) fun xv s1 hx => thn hx fun itv s2 h2 => ?_)
  obtain ⟨it, fp, tn, J, H2, rfl, I2, T, st2, f2, q⟩ := h2
  refine newSet_ok (newEnv_comp ?_)
  generalize hD : s2.heap.objs.size = D
  have Dn : H2 D = none := I2.hok.fresh (Nat.le_of_eq hD)
  obtain ⟨Wv, ⟨m0, w0⟩, turn⟩ := q D Dn
  generalize e3 : ({ s2 with heap := s2.heap.push { cls := .type "set", dict := none, data := .set #[] 0 (.fresh 0 0 (!X.w.params.followText "set-order")) } } : Shared) = s3
  have he3 : s3.heap = s2.heap.push { cls := .type "set", dict := none, data := .set #[] 0 (.fresh 0 0 (!X.w.params.followText "set-order")) } := by rw [← e3]
  have I3 : Inv X pn σ (upd H2 D (SetO X.w D (fun _ => false) 0)) s3 := by
    rw [← e3, ← hD]
    exact I2.laid (t' := s2.toks) (fun b o e => Heap.get?_push_of_some _ e) (Nat.le_refl _) (setO_new (setR_fresh X.w))
  have sz : ∀ b ∈ fp, b < s2.heap.objs.size := fun b hb => by
    obtain ⟨o, e, _⟩ := T.obj _ _ st2 b hb
    exact Heap.lt_size e
  have f3 : ∀ b ∈ fp, FpOk X pn (upd H2 D (SetO X.w D (fun _ => false) 0)) b ∧ b < s3.heap.objs.size := fun b hb => by
    have lt := sz b hb
    refine ⟨⟨?_, (f2 b hb).2⟩, by rw [he3, Heap.size_push]; exact Nat.lt_succ_of_lt lt⟩
    rw [upd_ne (by rw [← hD]; exact Nat.ne_of_lt lt)]
    exact (f2 b hb).1
  have st3 : tn 0 s3.heap := T.keep _ _ _ st2 fun b _ o e => by rw [he3]; exact Heap.get?_push_of_some _ e
  have I4 := block_start I3 blk nd f3
  generalize hH3 : upd H2 D (SetO X.w D (fun _ => false) 0) = H3 at I3 I4 w0 f3
  have pg := ptg s3 H3 s3.heap.objs.size (cellsFrom (s3.heap.objs.size + 1) scope.names (cloFrom X.env.cells scope.names [])) fp
  have pt := pts s3 H3 s3.heap.objs.size (cellsFrom (s3.heap.objs.size + 1) scope.names (cloFrom X.env.cells scope.names [])) fp
  have pe := pel s3 H3 s3.heap.objs.size (cellsFrom (s3.heap.objs.size + 1) scope.names (cloFrom X.env.cells scope.names [])) fp
  show codeAny _ _ (.compStart (.SetComp elt [⟨tg, iter, ifs, 0⟩] scope pos) 0 (.ref it) (.ref D) (compEnvC scope (cellsFrom (s3.heap.objs.size + 1) scope.names (cloFrom X.env.cells scope.names [])) s3.heap.objs.size X.env)) _ { s3 with heap := pushCells (s3.heap.push { cls := .type "dict", data := .dict #[] }) scope.names }
  have nfp : ∀ b ∈ fp, H3 b = none := fun b hb => (f3 b hb).1.1
  generalize hce : compEnvC scope (cellsFrom (s3.heap.objs.size + 1) scope.names (cloFrom X.env.cells scope.names [])) s3.heap.objs.size X.env = ce at I4 pg pt pe ⊢
  have cL : ce.locals = s3.heap.objs.size := by subst hce; rfl
  generalize e4 : ({ s3 with heap := pushCells (s3.heap.push { cls := .type "dict", data := .dict #[] }) scope.names } : Shared) = s4 at I4 ⊢
  have st4 : tn 0 s4.heap := T.keep _ _ _ st3 fun b _ o e => by rw [← e4]; exact pushCells_keeps _ _ _ _ (Heap.get?_push_of_some _ e)
  have stat : ∀ {σn : L2.St} {Hn : Hp} {sn : Shared}, Inv (X.blk s3 H3 scope ce fp) [] σn Hn sn → (∀ b ∈ fp, Hn b = none) → ∀ b ∈ fp, FpOk (X.blk s3 H3 scope ce fp) [] Hn b := fun {σn Hn sn} In hn b hb =>
    ⟨hn b hb, (In.ok.exf b hb).1, In.ok.exfs b hb, .inl hb, fun x c e => (In.ok.exf b hb).2 x c e, fun p hp => absurd (show p ∈ ([] : List (Addr × Obj)) ++ [] from hp) (by simp)⟩
  refine (fun (loop : codeAny (model X.prog X.w) X.A (.compLoop (.SetComp elt [⟨tg, iter, ifs, 0⟩] scope pos) 0 (.ref it) (.ref D) ce) (compPost (model X.prog X.w) X.A X.xe none (EP X pn σ Q) (.ref D) s3.heap.objs.size) s4) => codeAny_compStart_set loop (T.self X.A 0 _ _ _ st4 loop)) ?_
  refine compLoopS_any (fun n sn => ∃ i Hn, Inv (X.blk s3 H3 scope ce fp) [] (wipe σ (own.map (·.2))) Hn sn ∧ tn i sn.heap ∧ (∀ b ∈ fp, Hn b = none) ∧ Wv i n Hn) ?_ m0 ⟨0, H3, I4, st4, nfp, w0⟩
  rintro n s5 ⟨i, H5, I5, st5, n5, w5⟩
  rcases turn i n H5 w5 with ⟨stop, qq⟩ | ⟨go, Nx, hNx, step⟩
  · refine thnF (T.done (X.blk s3 H3 scope ce fp) rfl rfl rfl calm i [] s5 _ H5 (fun _ _ => False) I5 (stat I5 n5) st5 stop) fun r s6 ⟨hr, I6⟩ => ?_
    subst hr
    have I7 : Inv X pn σ H5 s6 := I3.call' (ch := fp) I6.os I6.base I6.hok I6.bare fun b hb => ⟨(f3 b hb).1.2.2.2.1, (f3 b hb).1.2.1, (f3 b hb).1.2.2.2.2.1, (f3 b hb).1.2.2.2.2.2⟩
    have nC : H5 s3.heap.objs.size = none := by
      have z : H5 ce.locals = none := I6.free
      rwa [cL] at z
    obtain ⟨m, hn, _⟩ := I6.loc
    have hn : s6.heap.Ns ce.locals m := hn
    rw [cL] at hn
    obtain ⟨f0, f1, f2, f3, f4, f5⟩ := I3.fpOk (Nat.le_refl _) nC
    exact ⟨m, hn, fun hz sb => ⟨.ref D, H5, I7.turned (t' := s6.toks) (fun b o hb e => (sb.2 b hb).trans e) f0 f1 f3 f4 f5, rfl, qq⟩⟩
  · refine thnF (T.item (X.blk s3 H3 scope ce fp) rfl rfl rfl calm i [] s5 _ H5 (fun _ _ => False) I5 (stat I5 n5) st5 go) fun r s6 ⟨u, hr, h6⟩ => ?_
    subst hr
    refine thnF h6 fun _ s7 ⟨x, H7, I7, r7, y7, st7, n7⟩ => ?_
    have J7 := I7.pinned (stat I7 n7) (T.obj _ _ st7)
    refine thnF (pg.run _ s7 _ H7 x u _ J7 r7 (step x H7 y7)) fun _ s8 ⟨σ8, H8, I8, hw8, q8⟩ => thnF (pt.run _ s8 σ8 H8 _ I8 q8) fun b s9 ⟨H9, I9, q9⟩ => ?_
    have fin : ∀ {Hn : Hp} {sn : Shared}, Inv (X.blk s3 H3 scope ce fp) ([] ++ pinsAt fp s7.heap) σ8 Hn sn → Nx Hn → ∃ m, m < n ∧ ∃ i Hn, Inv (X.blk s3 H3 scope ce fp) [] (wipe σ (own.map (·.2))) Hn sn ∧ tn i sn.heap ∧ (∀ b ∈ fp, Hn b = none) ∧ Wv i m Hn := fun {Hn sn} In nx => by
      obtain ⟨l, hm, wn⟩ := hNx Hn nx
      have pin : ∀ b ∈ fp, ∀ o, s7.heap.get? b = some o → sn.heap.get? b = some o ∧ Hn b = none := fun b hb o e =>
        let z := In.pin (b, o) (List.mem_append_right _ (List.mem_append_right _ (mem_pinsAt hb e)))
        ⟨z.1, z.2.1⟩
      refine ⟨l, hm, i + 1, Hn, (In.unpinned (pins := [])).weak (by rw [← hw8, wipe_length]) (fun j v e => by rw [← hw8] at e; exact (wipe_some e).1), T.keep _ _ _ st7 fun b hb o e => (pin b hb o e).1, fun b hb => ?_, wn⟩
      obtain ⟨o, e, _⟩ := T.obj _ _ st7 b hb
      exact (pin b hb o e).2
    cases b with
    | false =>
      simp only [Bool.false_eq_true, if_false] at q9 ⊢
      exact fin I9 q9
    | true =>
      simp only [if_true] at q9 ⊢
      exact thnF (pe.run _ s9 σ8 H9 _ I9 q9) fun z s10 ⟨yv, H10, I10, r10, q10⟩ => sput_ok (X := X.blk s3 H3 scope ce fp) I10 r10 q10 fun Hn sn In nx => fin In nx
end
/-! ### a set of ints is no code object -/
theorem set_no_code {w : World} {a : Addr} {M : Int → Bool} {z : Nat} {c : Addr} {q : Str} : SetO w a M z ≠ LamX.CodeO c q := fun e => by
  let ob : Obj := ⟨.none, .none, .fields #[.none, .str q 0], #[]⟩
  let hp : Heap := ⟨Array.replicate (c + 1) ob, {}⟩
  have at_ : ∀ b o, hp.get? b = some o → o = ob := fun b o h => by
    unfold Heap.get? at h
    by_cases hb : b < c + 1
    · have : hp.objs[b]? = some ob := by
        show (Array.replicate (c + 1) ob)[b]? = some ob
        rw [Array.getElem?_replicate, if_pos hb]
      rw [this] at h
      exact (Option.some.inj h).symm
    · have : hp.objs[b]? = none := by
        show (Array.replicate (c + 1) ob)[b]? = none
        rw [Array.getElem?_replicate, if_neg hb]
      rw [this] at h
      cases h
  have e2 : (fun h => SetR w h a M z) = fun h : Heap => ∃ (oc : Obj) (vs : Array Value) (t : Tok), h.get? c = some oc ∧ oc.data = .fields vs ∧ vs[1]? = some (.str q t) := HO.ext.inj e
  have e3 : (∃ (oc : Obj) (vs : Array Value) (t : Tok), hp.get? c = some oc ∧ oc.data = .fields vs ∧ vs[1]? = some (.str q t)) := by
    refine ⟨ob, _, 0, ?_, rfl, rfl⟩
    unfold Heap.get?
    have : hp.objs[c]? = some ob := by
      show (Array.replicate (c + 1) ob)[c]? = some ob
      rw [Array.getElem?_replicate, if_pos (Nat.lt_succ_self c)]
    rw [this]
  obtain ⟨o, es, ep, t, h1, _, h2, _⟩ := (congrFun e2 hp).mpr e3
  rw [at_ _ _ h1] at h2
  cases h2
theorem nocode_set {w : World} {H : Hp} {p a : Addr} {M : Int → Bool} {z : Nat} (h : H p = some (SetO w a M z)) : NoCode H p := fun c q e => by
  rw [h] at e
  exact set_no_code (Option.some.inj e)
theorem mem_fun (l : List Int) (j : Int) : (fun i => decide (i ∈ l) || decide (i = j)) = fun i => decide (i ∈ l ++ [j]) := by
  funext i
  rw [← Bool.decide_or]
  congr 1
  rw [List.mem_append, List.mem_singleton]
/-- .. by types -/
theorem jd_scI {Γ : Gm} {w : World} {wi : TI} {g : TG} {tt : TT} {te : TE} {vs : List Nat} {α : Type} {xs : List α} {Y : α → VT} {bind : α → Gm → Gm} {p : α → Bool} {q : α → Int} (hi : Ji Γ wi xs Y) (hg : Tg g Y bind vs) (ht : ∀ a ∈ xs, Jt (bind a (wipeG Γ vs)) tt (p a))
    (he : ∀ a ∈ xs, p a = true → Jd (bind a (wipeG Γ vs)) te (dt (.int (q a)))) (hn : xs.length ≤ 1000) : Jd Γ (tScI w wi g tt te vs) (setT w ((xs.filter p).map q)) := fun σ H ty Q k => by
  refine hi σ H ty _ fun J H1 G Yw e1 W g1 gm gy D hD => ?_
  refine ⟨fun i m Hi => m = xs.length - i ∧ i ≤ xs.length ∧ Same H1 Hi ∧ ∃ c, Hi D = some (SetO w D (fun j => decide (j ∈ ((xs.take i).filter p).map q)) c) ∧ c ≤ ((xs.take i).filter p).length, ⟨xs.length, by simp, Nat.zero_le _, same_upd hD, 0, upd_same, Nat.zero_le _⟩, ?_⟩
  rintro i m Hi ⟨rfl, hle, e, c, hc, hcl⟩
  by_cases hlt : i < xs.length
  · refine .inr ⟨W.goes i Hi hlt (gm _ _ e g1), fun Hn => i + 1 ≤ xs.length ∧ Same H1 Hn ∧ ∃ c, Hn D = some (SetO w D (fun j => decide (j ∈ ((xs.take (i + 1)).filter p).map q)) c) ∧ c ≤ ((xs.take (i + 1)).filter p).length, fun Hn z => ⟨xs.length - (i + 1), by omega, rfl, z⟩, fun x Hx hx => ?_⟩
    obtain ⟨a, ha, eb, pa⟩ := gy i Hi x Hx e (gm _ _ e g1) hlt (W.yields i Hi x Hx hlt (gm _ _ e g1) hx)
    have ma : a ∈ xs := List.mem_of_getElem? ha
    refine hg _ a x _ Hx _ (((ty.mono e1).mono (e.trans eb)).wipe vs) pa fun σ2 ty2 hl2 hs2 => ⟨(wipe_same hl2 hs2).trans (wipe_wipe σ vs), ht a ma σ2 Hx ty2 _ fun H3 e3 => ?_⟩
    have hc3 : H3 D = _ := e3.get (eb.get hc)
    cases hpa : p a with
    | false =>
      refine iteF ⟨hlt, (e.trans eb).trans e3, c, ?_⟩
      rw [take_snoc ha, List.filter_append, List.filter_cons_of_neg (by rw [hpa]; exact Bool.false_ne_true), List.filter_nil, List.append_nil]
      exact ⟨hc3, hcl⟩
    | true =>
      refine iteT (he a ma hpa σ2 H3 (ty2.mono e3) _ fun v H4 e4 pv => ?_)
      have hc4 : H4 D = _ := e4.get hc3
      have few := filter_len p xs i
      refine ⟨q a, _, c, of_int pv, hc4, by unfold scanBound; omega, hlt, same_mut (((e.trans eb).trans e3).trans e4) hD (nocode_set hc4), _, by rw [upd_same, take_snoc ha, List.filter_append, List.filter_cons_of_pos hpa, List.filter_nil, List.map_append, List.map_cons, List.map_nil, ← mem_fun], ?_⟩
      rw [take_snoc ha, List.filter_append, List.filter_cons_of_pos hpa, List.filter_nil, List.length_append]
      split
      · exact Nat.le_succ_of_le hcl
      · exact Nat.succ_le_succ hcl
  · have ei : i = xs.length := by omega
    subst ei
    rw [List.take_of_length_le (Nat.le_refl _)] at hc hcl
    exact .inl ⟨W.stops Hi (gm _ _ e g1), k _ Hi (e1.trans e) ⟨D, c, rfl, hc, by rw [List.length_map]; exact hcl⟩⟩
end Ost
set_option Elab.async false
set_option linter.all false
set_option maxRecDepth 100000
set_option maxHeartbeats 1000000
/-! KL: walks over a dict's keys: it is locked meanwhile. -/
namespace Ost
open PySem PySem.Spec PyProof.Rows L2
open C8 (Cal pe_c Mak pe_mk Met pe_gc)

/-! ### all tuples and lists stay -/
def TLs (H H' : Hp) : Prop := (∀ a xs, H a = some (.tup xs) → H' a = some (.tup xs)) ∧ ∀ a xs, H a = some (.lst xs) → H' a = some (.lst xs)
mutual
theorem Tp.tl {H H' : Hp} (e : TLs H H') : ∀ (d : PyData) (v : V), Tp H d v → Tp H' d v
  | .none, v, h => tp_none.mpr (tp_none.mp h)
  | .bool b, v, h => tp_bool.mpr (tp_bool.mp h)
  | .int i, v, h => tp_int.mpr (tp_int.mp h)
  | .str x, v, h => tp_str.mpr (tp_str.mp h)
  | .tuple ds, v, h => by
    obtain ⟨a, xs, h1, h2, h3⟩ := tp_tuple.mp h
    exact tp_tuple.mpr ⟨a, xs, h1, e.1 a _ h2, TpAll.tl e ds xs h3⟩
  | .list ds, v, h => by
    obtain ⟨a, xs, h1, h2, h3⟩ := tp_list.mp h
    exact tp_list.mpr ⟨a, xs, h1, e.2 a _ h2, TpAll.tl e ds xs h3⟩
  | .dict ds, v, h => by rw [Tp] at h; exact h.elim
theorem TpAll.tl {H H' : Hp} (e : TLs H H') : ∀ (ds : List PyData) (vs : List V), TpAll H ds vs → TpAll H' ds vs
  | [], vs, h => ta_nil.mpr (ta_nil.mp h)
  | d :: ds, vs, h => by
    obtain ⟨v, r, h1, h2, h3⟩ := ta_cons.mp h
    exact ta_cons.mpr ⟨v, r, h1, Tp.tl e d v h2, TpAll.tl e ds r h3⟩
end
abbrev frzO (od : Obj) (kvs : List (List Key × V)) : HO := .frz od (.dT kvs)
theorem tls_lock {H : Hp} {d : Addr} {kvs : List (List Key × V)} {od : Obj} (h : H d = some (.dT kvs)) : TLs H (upd H d (frzO od kvs)) :=
  ⟨fun a xs e => by rw [upd_ne fun z => by rw [z, h] at e; cases e]; exact e, fun a xs e => by rw [upd_ne fun z => by rw [z, h] at e; cases e]; exact e⟩
theorem tls_un {H : Hp} {d : Addr} {kvs : List (List Key × V)} {od : Obj} (h : H d = some (.dT kvs)) : TLs (upd H d (frzO od kvs)) H :=
  ⟨fun a xs e => by
    by_cases z : a = d
    · rw [z, upd_same] at e; cases e
    · rwa [upd_ne z] at e, fun a xs e => by
    by_cases z : a = d
    · rw [z, upd_same] at e; cases e
    · rwa [upd_ne z] at e⟩
theorem rd_lock {H : Hp} {d a : Addr} {kvs ks : List (List Key × V)} {od : Obj} (h : H d = some (.dT kvs)) : Rd H a (.dT ks) ↔ Rd (upd H d (frzO od kvs)) a (.dT ks) := by
  by_cases z : a = d
  · subst z
    unfold Rd
    rw [h, upd_same]
    constructor
    · rintro (e | ⟨o, e⟩)
      · cases e; exact .inr ⟨od, rfl⟩
      · cases e
    · rintro (e | ⟨o, e⟩)
      · cases e
      · cases e; exact .inl rfl
  · unfold Rd
    rw [upd_ne z]
theorem tab_lock {H : Hp} {P d : Addr} {kvs : List (List Key × V)} {od : Obj} (h : H d = some (.dT kvs)) : LamX.TabS H P lamQ ↔ LamX.TabS (upd H d (frzO od kvs)) P lamQ := by
  constructor
  · rintro ⟨ps, h1, h2, h3⟩
    refine ⟨ps, by rw [upd_ne fun z => by rw [z, h] at h1; cases h1]; exact h1, h2, fun pos cv hc => ?_⟩
    obtain ⟨c, e1, e2⟩ := h3 pos cv hc
    exact ⟨c, e1, by rw [upd_ne fun z => by rw [z, h] at e2; cases e2]; exact e2⟩
  · rintro ⟨ps, h1, h2, h3⟩
    have p1 : P ≠ d := fun z => by rw [z, upd_same] at h1; cases h1
    rw [upd_ne p1] at h1
    refine ⟨ps, h1, h2, fun pos cv hc => ?_⟩
    obtain ⟨c, e1, e2⟩ := h3 pos cv hc
    have c1 : c ≠ d := fun z => by rw [z, upd_same] at e2; cases e2
    rw [upd_ne c1] at e2
    exact ⟨c, e1, e2⟩
/-- a type that a lock leaves -/
def LkS (t : VT) : Prop := ∀ (v : V) (H : Hp) (d : Addr) (kvs : List (List Key × V)) (od : Obj), H d = some (.dT kvs) → (t.P v H ↔ t.P v (upd H d (frzO od kvs)))
theorem lk_dt (x : PyData) : LkS (dt x) := fun v H d kvs od h => ⟨fun p => Tp.tl (tls_lock h) _ _ p, fun p => Tp.tl (tls_un h) _ _ p⟩
theorem lk_cho (C : Cn) (c : Ch) : LkS (cho C c) := fun v H d kvs od h => by
  have ins : ∀ {a dx : Addr} {fs : List (Str × V)} {cl : Addr}, H a = some (.ins cl dx fs) ↔ upd H d (frzO od kvs) a = some (.ins cl dx fs) := fun {a dx fs cl} => by
    by_cases z : a = d
    · subst z
      rw [h, upd_same]
      constructor <;> (intro e; cases e)
    · rw [upd_ne z]
  have tl1 := tls_lock (od := od) h
  have tl2 := tls_un (od := od) h
  constructor
  · intro p
    have p : chP C c v H := p
    obtain ⟨a, dx, tb, pl, fs, ks, h1, h2, h3, h4, h5, h6, h7, h8⟩ := p
    exact ⟨a, dx, tb, pl, fs, ks, h1, ins.mp h2, h3, h4, (rd_lock h).mp h5, fun s hs => by obtain ⟨p, q1, q2⟩ := h6 s hs; exact ⟨p, q1, tl1.1 _ _ q2⟩, tl1.1 _ _ h7, (tab_lock h).mp h8⟩
  · intro p
    have p : chP C c v (upd H d (frzO od kvs)) := p
    obtain ⟨a, dx, tb, pl, fs, ks, h1, h2, h3, h4, h5, h6, h7, h8⟩ := p
    exact ⟨a, dx, tb, pl, fs, ks, h1, ins.mpr h2, h3, h4, (rd_lock h).mpr h5, fun s hs => by obtain ⟨p, q1, q2⟩ := h6 s hs; exact ⟨p, q1, tl2.1 _ _ q2⟩, tl2.1 _ _ h7, (tab_lock h).mpr h8⟩
theorem lk_dtT (C : Cn) (x : PyData) : LkS (dtT C x) := fun v H d kvs od h => and_congr (lk_dt x v H d kvs od h) (tab_lock h)
/-- a dict, locked or not -/
def dicF (m : List (List Int × PyData)) : VT := ⟨fun v H => ∃ l kvs, v = .ref l ∧ Rd H l (.dT kvs) ∧ DicAll H m kvs, fun e h => by
  obtain ⟨l, kvs, h1, h2, h3⟩ := h
  exact ⟨l, kvs, h1, e.rd h2, h3.mono e⟩⟩
theorem lk_dicF (m : List (List Int × PyData)) : LkS (dicF m) := fun v H d kvs od h => by
  constructor
  · rintro ⟨l, ks, h1, h2, h3⟩
    exact ⟨l, ks, h1, (rd_lock h).mp h2, h3.1, TpAll.tl (tls_lock h) _ _ h3.2⟩
  · rintro ⟨l, ks, h1, h2, h3⟩
    exact ⟨l, ks, h1, (rd_lock h).mpr h2, h3.1, TpAll.tl (tls_un h) _ _ h3.2⟩
/-- .. locked, at d -/
def dicZ (d : Addr) (m : List (List Int × PyData)) : VT := ⟨fun v H => v = .ref d ∧ ∃ o kvs, H d = some (frzO o kvs) ∧ DicAll H m kvs, fun e h => by
  obtain ⟨h1, o, kvs, h2, h3⟩ := h
  exact ⟨h1, o, kvs, e.get h2, h3.mono e⟩⟩
theorem dicT_F {m : List (List Int × PyData)} {v : V} {H : Hp} (h : (dicT m).P v H) : (dicF m).P v H := by
  obtain ⟨l, kvs, h1, h2, h3⟩ := h
  exact ⟨l, kvs, h1, .inl h2, h3⟩
theorem dicZ_F {d : Addr} {m : List (List Int × PyData)} {v : V} {H : Hp} (h : (dicZ d m).P v H) : (dicF m).P v H := by
  obtain ⟨h1, o, kvs, h2, h3⟩ := h
  exact ⟨d, kvs, h1, .inr ⟨o, h2⟩, h3⟩
theorem lock_same {H H' : Hp} {d : Addr} {kvs : List (List Key × V)} {od : Obj} (h : H d = some (.dT kvs)) (e : Same (upd H d (frzO od kvs)) H') : Same H (upd H' d (.dT kvs)) := by
  have hd : H' d = some (frzO od kvs) := e.get upd_same
  refine ⟨fun b o hb n => ?_, fun b ps hb => ?_, fun P t => ?_⟩
  · by_cases z : b = d
    · subst z; rw [h] at hb; cases hb; exact upd_same
    · rw [upd_ne z]; exact e.obj b o (by rw [upd_ne z]; exact hb) n
  · have z : b ≠ d := fun z => by rw [z, h] at hb; cases hb
    rw [upd_ne z]
    exact e.tbl b ps (by rw [upd_ne z]; exact hb)
  · obtain ⟨ps, h1, h2, h3⟩ := e.tab P ((tab_lock h).mp t)
    refine ⟨ps, by rw [upd_ne fun z => by rw [z, hd] at h1; cases h1]; exact h1, h2, fun pos cv hc => ?_⟩
    obtain ⟨c, e1, e2⟩ := h3 pos cv hc
    exact ⟨c, e1, by rw [upd_ne fun z => by rw [z, hd] at e2; cases e2]; exact e2⟩
theorem same_both {H0 H : Hp} {d : Addr} {kvs : List (List Key × V)} {od : Obj} (h : H0 d = some (.dT kvs)) (e : Same H0 H) : Same (upd H0 d (frzO od kvs)) (upd H d (frzO od kvs)) := by
  refine ⟨fun b o hb n => ?_, fun b ps hb => ?_, fun P t => (tab_lock (e.get h)).mp (e.tab P ((tab_lock h).mpr t))⟩
  · by_cases z : b = d
    · subst z; rw [upd_same] at hb ⊢; exact hb
    · rw [upd_ne z] at hb ⊢; exact e.obj b o hb n
  · have z : b ≠ d := fun z => by rw [z, upd_same] at hb; cases hb
    rw [upd_ne z] at hb ⊢
    exact e.tbl b ps hb

/-! ### reading a dict -/
section
variable {Γ : Gm} {ta tb te : TE} {K : PySem.W.Frag} {m : List (List Int × PyData)} {s : List Int} {d : PyData}
theorem dget_at {H : Hp} {x y : V} (p1 : (dicF m).P x H) (p2 : (dt (sD s)).P y H) : ∃ a o, x = .ref a ∧ DGet H a y o ∧ match lookD m s with
    | some d => ∃ v, o = some v ∧ Tp H d v
    | none => o = none := by
  obtain ⟨l, kvs, rfl, h1, h2⟩ := p1
  obtain ⟨b, rfl, hb⟩ := tp_sD.mp p2
  refine ⟨l, _, rfl, .inr ⟨kvs, keyOf s, b, h1, rfl, by rw [keyOf_kV]; exact hb, rfl⟩, ?_⟩
  exact h2.look s
theorem jd_dget (h1 : Jd Γ ta (dicF m)) (h2 : Jd Γ tb (dt (sD s))) (h : lookD m s = some d) : Jd Γ (tDGet ta tb) (dt d) := fun σ H ty Q k =>
  h1 σ H ty _ fun x H1 e1 p1 => h2 σ H1 (ty.mono e1) _ fun y H2 e2 p2 => by
    obtain ⟨a, o, rfl, g, q⟩ := dget_at ((dicF m).mono e2 p1) p2
    rw [h] at q
    obtain ⟨v, rfl, t⟩ := q
    exact ⟨a, v, rfl, g, k v H2 (e1.trans e2) t⟩
theorem jd_din (h1 : Jd Γ ta (dt (sD s))) (h2 : Jd Γ tb (dicF m)) : Jd Γ (tDIn ta tb) (dt (.bool (lookD m s).isSome)) := fun σ H ty Q k =>
  h1 σ H ty _ fun y H1 e1 p1 => h2 σ H1 (ty.mono e1) _ fun x H2 e2 p2 => by
    obtain ⟨a, o, rfl, g, q⟩ := dget_at p2 ((dt _).mono e2 p1)
    refine ⟨a, o, rfl, g, k _ H2 (e1.trans e2) ?_⟩
    cases hl : lookD m s with
    | none => rw [hl] at q; rw [q]; exact dt_bl _
    | some d => rw [hl] at q; obtain ⟨v, rfl, _⟩ := q; exact dt_bl _
theorem jd_dnotin (h1 : Jd Γ ta (dt (sD s))) (h2 : Jd Γ tb (dicF m)) : Jd Γ (tDNotIn ta tb) (dt (.bool (!(lookD m s).isSome))) := fun σ H ty Q k =>
  h1 σ H ty _ fun y H1 e1 p1 => h2 σ H1 (ty.mono e1) _ fun x H2 e2 p2 => by
    obtain ⟨a, o, rfl, g, q⟩ := dget_at p2 ((dt _).mono e2 p1)
    refine ⟨a, o, rfl, g, k _ H2 (e1.trans e2) ?_⟩
    cases hl : lookD m s with
    | none => rw [hl] at q; rw [q]; exact dt_bl _
    | some d => rw [hl] at q; obtain ⟨v, rfl, _⟩ := q; exact dt_bl _
end
/-! ### what runs while a dict is locked -/
section
variable {Γ Γ' : Gm} {te : TE} {s1 : TS} {m : List (List Int × PyData)} {i : Nat} {ds : List PyData} {C : Prop} {R : VT}
theorem ty_lock {σ : L2.St} {H : Hp} {d : Addr} {kvs : List (List Key × V)} {od : Obj} (ty : Ty Γ σ H) (hi : σ[i]? = some (some (.ref d))) (h : H d = some (.dT kvs)) (hm : DicAll H m kvs) (hl : ∀ k t, k ≠ i → Γ[k]? = some (some t) → LkS t) (lt : i < Γ.length) : Ty (Γ.set i (some (dicZ d m))) σ (upd H d (frzO od kvs)) := by
  refine ⟨by rw [List.length_set]; exact ty.len, fun k t q => ?_⟩
  rcases set_at q with ⟨rfl, e⟩ | ⟨e, q'⟩
  · cases e
    exact ⟨_, hi, rfl, od, kvs, upd_same, hm.1, TpAll.tl (tls_lock h) _ _ hm.2⟩
  · obtain ⟨v, h1, h2⟩ := ty.at_ k t q'
    exact ⟨v, h1, (hl k t (Ne.symm e) q' v H d kvs od h).mp h2⟩
theorem jf_lock (hi : Γ[i]? = some (some (dicT m))) (hl : ∀ k t, k ≠ i → Γ[k]? = some (some t) → LkS t) (h : ∀ d, Jf (Γ.set i (some (dicZ d m))) te ds) (n : noLs ds = true) : Jf Γ (tLockE te) ds := fun σ H ty Q k => by
  obtain ⟨v, g1, d, kvs, rfl, hd, hm⟩ := ty.at_ i _ hi
  refine ⟨d, .dT kvs, hd, trivial, fun od => ?_⟩
  refine h d σ _ (ty_lock ty g1 hd hm hl (List.getElem?_eq_some_iff.mp hi).1) _ fun l vs H2 e hn h2 hvs => ⟨e.get upd_same, ?_⟩
  have ld : l ≠ d := fun z => by rw [z, upd_same] at hn; cases hn
  have hd2 : H2 d = some (frzO od kvs) := e.get upd_same
  exact k l vs _ (lock_same hd e) (by rw [upd_ne ld] at hn; exact hn) (by rw [upd_ne ld]; exact h2) (TpAll.keep (Tups.upd fun xs z => by rw [hd2] at z; cases z) _ _ n hvs)
theorem js_lock (hi : Γ[i]? = some (some (dicT m))) (hl : ∀ k t, k ≠ i → Γ[k]? = some (some t) → LkS t) (hR : LkS R) (h : ∀ d, ∃ Γ1, Js (Γ.set i (some (dicZ d m))) s1 Γ1 C R ∧ Γ1.length = Γ'.length ∧ ∀ (k : Nat) (t : VT), Γ'[k]? = some (some t) → Γ1[k]? = some (some t) ∧ LkS t) : Js Γ (tLock s1) Γ' C R := fun σ H ty D k r => by
  obtain ⟨v, g1, d, kvs, rfl, hd, hm⟩ := ty.at_ i _ hi
  refine ⟨d, .dT kvs, hd, trivial, fun od => ?_⟩
  obtain ⟨Γ1, hj, len, hs⟩ := h d
  have back : ∀ {H2 : Hp} {t : VT} {u : V}, H2 d = some (frzO od kvs) → LkS t → t.P u H2 → t.P u (upd H2 d (.dT kvs)) := fun {H2 t u} h2 lk p => by
    have := (lk u (upd H2 d (.dT kvs)) d kvs od upd_same).mpr
    have e : upd (upd H2 d (.dT kvs)) d (frzO od kvs) = H2 := by
      funext b
      by_cases z : b = d
      · subst z; rw [upd_same, h2]
      · rw [upd_ne z, upd_ne z]
    rw [e] at this
    exact this p
  refine hj σ _ (ty_lock ty g1 hd hm hl (List.getElem?_eq_some_iff.mp hi).1) _ (fun c σ2 H2 e ty2 => ⟨e.get upd_same, k c σ2 _ (lock_same hd e) ⟨by rw [← len]; exact ty2.len, fun j t q => ?_⟩⟩) fun u H2 e p => ⟨e.get upd_same, r u _ (lock_same hd e) (back (e.get upd_same) hR p)⟩
  obtain ⟨q1, lk⟩ := hs j t q
  obtain ⟨u, a1, a2⟩ := ty2.at_ j t q1
  exact ⟨u, a1, back (e.get upd_same) lk a2⟩
theorem ji_keys {d : Addr} (hi : Γ[i]? = some (some (dicZ d m))) : Ji Γ (iKeys (tVar i)) (m.map (·.1)) fun s => dt (sD s) := fun σ H ty R k => by
  obtain ⟨v, g1, rfl, o, kvs, hd, hm⟩ := ty.at_ i _ hi
  have hlen : kvs.length = (m.map (·.1)).length := by rw [List.length_map]; exact hm.length
  refine ⟨_, g1, d, o, rfl, .inr ⟨kvs, hd, k (Itkt d o kvs) H (fun H => H d = some (frzO o kvs)) _ (Same.refl H) (hlen ▸ walk_keysT) hd (fun Ha Hb e z => e.get z) fun i Ha x Hb e z lt y => ?_⟩⟩
  obtain ⟨rfl, kk, v, q, h1, rfl, h2⟩ := y
  have e1 : (kvs.map (·.1))[i]? = some kk := by rw [List.getElem?_map, h1]; rfl
  rw [hm.1] at e1
  obtain ⟨p, hp, rfl⟩ := map_at e1
  exact ⟨p.1, by rw [List.getElem?_map, hp]; rfl, Same.refl _, tp_sD.mpr ⟨q, rfl, by rw [← keyOf_kV]; exact h2⟩⟩
end
/-! ### .. in bodies with own things -/
section
variable {Γ Γ' : Mm} {s1 : TS} {m : List (List Int × PyData)} {i : Nat} {C : Prop} {R : VT}
theorem jm_lock (hi : Γ[i]? = some (some (.arg (dicT m)))) (hl : ∀ k t, k ≠ i → Γ[k]? = some (some (.arg t)) → LkS t) (hl' : ∀ k t, k ≠ i → Γ'[k]? = some (some (.arg t)) → LkS t) (hR : LkS R) (hi' : i < Γ'.length)
    (h : ∀ d, Jm (Γ.set i (some (.arg (dicZ d m)))) s1 (Γ'.set i (some (.arg (dicZ d m)))) C R) : Jm Γ (tLock s1) (Γ'.set i (some (.arg (dicT m)))) C R := fun H0 σ H ty D k r => by
  obtain ⟨v, g1, d, kvs, rfl, hd0, hm0⟩ := ty.at_ i _ hi
  have hd : H d = some (.dT kvs) := ty.same.get hd0
  refine ⟨d, .dT kvs, hd, trivial, fun od => ?_⟩
  have lt := (List.getElem?_eq_some_iff.mp hi).1
  have ty' : TyM (upd H0 d (frzO od kvs)) (Γ.set i (some (.arg (dicZ d m)))) σ (upd H d (frzO od kvs)) := by
    refine ⟨same_both hd0 ty.same, by rw [List.length_set]; exact ty.len, fun j t q => ?_, fun j k s t v ne a b so to => ?_⟩
    · rcases set_at q with ⟨rfl, e⟩ | ⟨e, q'⟩
      · cases e
        exact ⟨_, g1, rfl, od, kvs, upd_same, hm0.1, TpAll.tl (tls_lock hd0) _ _ hm0.2⟩
      · obtain ⟨u, h1, h2⟩ := ty.at_ j t q'
        refine ⟨u, h1, ?_⟩
        cases t with
        | arg t => exact (hl j t (Ne.symm e) q' u H0 d kvs od hd0).mp h2
        | dat z => exact ⟨h2.1, Tp.tl (tls_lock hd) _ _ h2.2⟩
        | own ds =>
          obtain ⟨n, l, vs, rfl, e0, e1, e2⟩ := h2
          have ld : l ≠ d := fun z => by rw [z, hd0] at e0; cases e0
          exact ⟨n, l, vs, rfl, by rw [upd_ne ld]; exact e0, by rw [upd_ne ld]; exact e1, TpAll.tl (tls_lock hd) _ _ e2⟩
        | dic ks =>
          obtain ⟨n, l, vs, rfl, e0, e1, e2⟩ := h2
          have ld : l ≠ d := fun z => by rw [z, hd0] at e0; cases e0
          exact ⟨n, l, vs, rfl, by rw [upd_ne ld]; exact e0, by rw [upd_ne ld]; exact e1, e2.1, TpAll.tl (tls_lock hd) _ _ e2.2⟩
        | dek l c cs n =>
          obtain ⟨rfl, e0, e1, e2⟩ := h2
          have ld : l ≠ d := fun z => by rw [z, hd0] at e0; cases e0
          have cd : c ≠ d := fun z => by rw [z, hd0] at e2; cases e2
          exact ⟨rfl, by rw [upd_ne ld]; exact e0, by rw [upd_ne ld]; exact e1, by rw [upd_ne cd]; exact e2⟩
    · rcases set_at a with ⟨_, e⟩ | ⟨_, a'⟩
      · cases e; cases so
      · rcases set_at b with ⟨_, e⟩ | ⟨_, b'⟩
        · cases e; cases to
        · exact ty.apart j k s t v ne a' b' so to
  refine h d _ σ _ ty' _ (fun c σ2 H2 f ty2 => ?_) fun u H2 e p => ?_
  · have h2 : H2 d = some (frzO od kvs) := ty2.same.get upd_same
    have eun : upd (upd H2 d (.dT kvs)) d (frzO od kvs) = H2 := by
      funext b
      by_cases z : b = d
      · subst z; rw [upd_same, h2]
      · rw [upd_ne z, upd_ne z]
    have tl : TLs H2 (upd H2 d (.dT kvs)) := by
      have := tls_un (H := upd H2 d (.dT kvs)) (d := d) (kvs := kvs) (od := od) upd_same
      rw [eun] at this
      exact this
    have hf : ∀ {a : Addr}, Foreign (Γ'.set i (some (.arg (dicZ d m)))) σ2 a → Foreign (Γ'.set i (some (.arg (dicT m)))) σ2 a := fun {a} f j t q so => by
      rcases set_at q with ⟨_, e⟩ | ⟨e, q'⟩
      · cases e; cases so
      · exact f j t (by rw [List.getElem?_set_ne e]; exact q') so
    refine ⟨h2, k c σ2 _ (fun a o ha n fo => ?_) ⟨lock_same hd0 ty2.same, by have := ty2.len; rw [List.length_set] at this ⊢; exact this, fun j t q => ?_, fun j k s t v ne a b so to => ?_⟩⟩
    · have fo' : Foreign (Γ.set i (some (.arg (dicZ d m)))) σ a := fun j t q so => by
        rcases set_at q with ⟨_, e⟩ | ⟨_, q'⟩
        · cases e; cases so
        · exact fo j t q' so
      by_cases z : a = d
      · subst z
        rw [hd] at ha
        cases ha
        exact ⟨upd_same, hf (foreign_old ty2 (o := frzO od kvs) upd_same)⟩
      · obtain ⟨q1, q2⟩ := f a o (by rw [upd_ne z]; exact ha) n fo'
        exact ⟨by rw [upd_ne z]; exact q1, hf q2⟩
    · rcases set_at q with ⟨rfl, e⟩ | ⟨e, q'⟩
      · cases e
        obtain ⟨u, a1, a2, _⟩ := ty2.at_ i (.arg (dicZ d m)) (List.getElem?_set_self hi')
        subst a2
        exact ⟨_, a1, d, kvs, rfl, hd0, hm0⟩
      · obtain ⟨u, a1, a2⟩ := ty2.at_ j t (by rw [List.getElem?_set_ne e]; exact q')
        refine ⟨u, a1, ?_⟩
        cases t with
        | arg t => exact (hl' j t (Ne.symm e) q' u H0 d kvs od hd0).mpr a2
        | dat z => exact ⟨a2.1, Tp.tl tl _ _ a2.2⟩
        | own ds =>
          obtain ⟨n, l, vs, rfl, e0, e1, e2⟩ := a2
          have ld : l ≠ d := fun z => by rw [z, upd_same] at e0; cases e0
          rw [upd_ne ld] at e0
          exact ⟨n, l, vs, rfl, e0, by rw [upd_ne ld]; exact e1, TpAll.tl tl _ _ e2⟩
        | dic ks =>
          obtain ⟨n, l, vs, rfl, e0, e1, e2⟩ := a2
          have ld : l ≠ d := fun z => by rw [z, upd_same] at e0; cases e0
          rw [upd_ne ld] at e0
          exact ⟨n, l, vs, rfl, e0, by rw [upd_ne ld]; exact e1, e2.1, TpAll.tl tl _ _ e2.2⟩
        | dek l c cs n =>
          obtain ⟨rfl, e0, e1, e2⟩ := a2
          have ld : l ≠ d := fun z => by rw [z, upd_same] at e0; cases e0
          have cd : c ≠ d := fun z => by rw [z, upd_same] at e2; cases e2
          rw [upd_ne ld] at e0
          rw [upd_ne cd] at e2
          exact ⟨rfl, e0, by rw [upd_ne ld]; exact e1, e2⟩
    · rcases set_at a with ⟨_, e⟩ | ⟨ea, a'⟩
      · cases e; cases so
      · rcases set_at b with ⟨_, e⟩ | ⟨eb, b'⟩
        · cases e; cases to
        · exact ty2.apart j k s t v ne (by rw [List.getElem?_set_ne ea]; exact a') (by rw [List.getElem?_set_ne eb]; exact b') so to
  · have h2 : H2 d = some (frzO od kvs) := e.get upd_same
    have eun : upd (upd H2 d (.dT kvs)) d (frzO od kvs) = H2 := by
      funext b
      by_cases z : b = d
      · subst z; rw [upd_same, h2]
      · rw [upd_ne z, upd_ne z]
    refine ⟨h2, r u _ (lock_same hd0 e) ?_⟩
    have := (hR u (upd H2 d (.dT kvs)) d kvs od upd_same).mpr
    rw [eun] at this
    exact this p
/-- a for over the keys of a locked argument -/
theorem jm_forK {d : Addr} {g : TG} {tb : TS} {bd : List Int → Mm → Mm} {Γs : Nat → Mm} {C : Nat → Prop} (hi : (Γs 0)[i]? = some (some (.arg (dicZ d m)))) (hg : Tm g sD bd) (c0 : C 0)
    (hb : ∀ j s, (m.map (·.1))[j]? = some s → C j → Jm (bd s (Γs j)) tb (Γs (j + 1)) (C (j + 1)) R) : Jm (Γs 0) (tFor (iKeys (tVar i)) g tb) (Γs m.length) (C m.length) R := fun H0 σ H ty D k r => by
  obtain ⟨v, g1, rfl, o, kvs, hd0, hm0⟩ := ty.at_ i _ hi
  have hd : H d = some (frzO o kvs) := ty.same.get hd0
  have hlen : kvs.length = m.length := hm0.length
  refine ⟨_, g1, d, o, rfl, .inr ⟨kvs, hd, ?_⟩⟩
  rw [← hlen] at k
  refine for_it walk_keysT (fun j σ' H' => C j ∧ Fra (Γs 0) σ H (Γs j) σ' H' ∧ TyM H0 (Γs j) σ' H') ⟨c0, Fra.refl, ty⟩ (fun j σ' H' _ q => q.2.2.same.get hd0) (fun j x σ' Ha Hb hlt ⟨c, f', ty'⟩ y => ?_) fun σ' H' ⟨c, f', ty'⟩ => k c σ' H' f' ty'
  obtain ⟨rfl, kk, v, q, h1, rfl, h2⟩ := y
  have e1 : (kvs.map (·.1))[j]? = some kk := by rw [List.getElem?_map, h1]; rfl
  rw [hm0.1] at e1
  obtain ⟨p, hp, rfl⟩ := map_at e1
  refine hg H0 _ p.1 _ σ' _ _ ty' (tp_sD.mpr ⟨q, rfl, by rw [← keyOf_kV]; exact h2⟩) (noL_sD _) fun σ2 f2 ty2 => hb j p.1 (by rw [List.getElem?_map, hp]; rfl) c H0 σ2 _ ty2 _ (fun c3 σ3 H3 f3 ty3 => ⟨c3, (f'.trans f2).trans f3, ty3⟩) r
end
end Ost
set_option Elab.async false
set_option linter.all false
set_option maxRecDepth 100000
set_option maxHeartbeats 1000000
/-! K12: a dict display of one set; dict(rows); get. -/
namespace Ost
open PySem PySem.Spec PyProof.Rows L2
open C8 (Cal pe_c Mak pe_mk Met pe_gc)

/-- {k: v}, k a tuple -/
def tDisp1 (tk tv : TE) : TE := fun σ H Q => ∀ p, H p = none → tPairs [(tk, tv)] σ (upd H p (.dT [])) fun ps H2 => ∃ x y, ps = [(x, y)] ∧ H2 p = some (.dT []) ∧ ∃ kk b, x = .ref b ∧ H2 b = some (.tup (kk.map kV)) ∧ Q (.ref p) (upd H2 p (.dT [(kk, y)]))
theorem pe_dispT {X : Cx} {pos : Pos} {k v : Expr} {tk tv : TE} (hu : X.A.units + 1 < cLine) (hk : PE X k tk) (hv : PE X v tv) : PE X (.Dict [some k] [v] pos) (tDisp1 tk tv) := by
  refine ⟨fun pn s σ H Q I q => ?_⟩
  have hn := I.hok.fresh (Nat.le_refl s.heap.objs.size)
  have I1 := I.laid (a := s.heap.objs.size) (o := .dT []) (h' := s.heap.push { cls := .type "dict", data := .dict #[] }) (t' := s.toks) (fun _ _ z => Heap.get?_push_of_some _ z) (Nat.le_refl _) (dt_empty s.heap I.big)
  have one : (pairTrees [some k] [v] X.env pos).length = 1 := pairTrees_length [some k] [v] X.env pos rfl rfl
  rw [arm_eval_Dict, zip_pairTrees [some k] [v] X.env pos rfl rfl, dictDisplay_pairs _ (fun z => by rw [z] at one; cases one) (by omega)]
  refine wpAny_bind (wpAny_standAt (wpAny_bind ?_))
  unfold subDict
  refine wpAny_bind (wpAny_alloc (wpAny_bind (wpAny_holding ?_)))
  rw [if_pos (by omega)]
  refine wpAny_bind (thn ((pps_cons hk hv pps_nil).run pn { s with heap := s.heap.push { cls := .type "dict", data := .dict #[] } } σ _ _ I1 (q _ hn)) fun ws s2 ⟨ps, H2, I2, rel, x, y, e1, hd, kk, b, e2, hb, q2⟩ => ?_)
  subst e1
  subst e2
  cases rel with
  | @cons _ w1 _ ws r1 r2 =>
    cases r2
    obtain ⟨u1, u2⟩ := w1
    obtain ⟨ra, rb⟩ := r1
    cases (show u1 = Value.ref b from ra)
    obtain ⟨z, hsm, xs, rel, dd⟩ := dt_of I2.hok hd
    cases rel
    refine wpAny_holding (wpAny_bind ?_)
    rw [List.forIn_cons]
    refine wpAny_bind (wpAny_bind (wpAny_dictSet_heap (hsz := by show 0 ≤ sizeLine; exact Nat.zero_le _) (show X.A.units < cLine by omega) (key_of I2.hok hb) dd fun hx dx hs => wpAny_pure ?_))
    dsimp only
    rw [List.forIn_nil]
    refine wpAny_pure (wpAny_pure (wpAny_pure (wpAny_pure ⟨.ref s.heap.objs.size, _, ?_, rfl, q2⟩)))
    obtain ⟨ob, es, ep, hq, h2, h3, h4, _, h5⟩ := dx
    refine d_write I2 (by rw [hd]; exact True.intro) hs ⟨ob, hq⟩ ⟨by show 1 ≤ sizeLine; decide, hsm, _, (KT.put (H := H2) (kvs := []) (xs := []) .nil kk hb rb).keeps fun c ys ec => ?_, ob, es, ep, hq, h2, h3, h4, h5⟩
    rw [upd_ne (ne_of ec hd (fun z => nomatch z))]
    exact ec
/-- .. {part: True} -/
theorem mv_disp1 {Γ : Mm} {tk : TE} {s : List Int} {c : Bool} (h : Jd (vtG Γ) tk (dt (sD s))) : Jmv Γ (tDisp1 tk (tC (.bl c))) (.dic [(s, .bool c)]) := fun H0 σ H ty Q k => fun p hp => by
  have e0 : Same H (upd H p (.dT [])) := same_upd hp
  refine h σ _ (ty.ty.mono e0) _ fun x H1 e1 p1 => ?_
  obtain ⟨b, rfl, hb⟩ := tp_sD.mp p1
  have hd : H1 p = some (.dT []) := e1.get upd_same
  refine ⟨_, _, rfl, hd, keyOf s, b, rfl, by rw [keyOf_kV]; exact hb, ?_⟩
  have e2 : Same H (upd H1 p (.dT [(keyOf s, .bl c)])) := same_mut (e0.trans e1) hp (nocode_dT hd)
  exact k _ _ e2 ⟨by simp [noLs, noL], p, _, rfl, ty.same.free hp, upd_same, rfl, TpAll.one (tp_bool.mpr rfl)⟩ fun _ => ⟨p, rfl, hp⟩
end Ost
set_option Elab.async false
set_option linter.all false
set_option maxRecDepth 100000
set_option maxHeartbeats 4000000
/-! D1: small defs. -/
namespace Ost
open PySem PySem.Spec PyProof.Rows L2
open C8 (Cal pe_c Mak pe_mk Met pe_gc)

abbrev N_is_whole : List Str := ["thing"]
theorem sc_is_whole : FnScope N_is_whole ["thing"] (defScope s_is_whole) := ⟨rfl, rfl, rfl, by decide +kernel, rfl, by decide +kernel, by decide +kernel⟩
def sg_is_whole (C : Cn) : Sg Int := ⟨fun _ => True, fun i => [dt (.int i)], fun _ => dt (.bool true)⟩
def sp_is_whole (C : Cn) : Sp := (sg_is_whole C).sp
theorem ok_is_whole {P : Program} {w : World} {K : PySem.W.Frag} {mg : Str → Option Value} {base : Heap} {C : Cn} {f : Addr} {fd : FuncData} (F : FunD K "is_whole" "is_whole" (defArgs s_is_whole) (defBody s_is_whole) (defScope s_is_whole) [] [] f fd) (m : mg "is_whole" = some (.ref f)) (T : Top K mg C) :
    Cal P w K mg base 1 "is_whole" (sp_is_whole C) [] := by
  refine cal_of F (fn_js (S := sg_is_whole C) (k := 0) F sc_is_whole (fun _ => rfl) fun cdv A outer s H E hr => ⟨_, PSs.nox ((pss_one (ps_ret (pe_and (pe_callB (c_isi (K := K) rfl) (by rfl) T.isinstance_ boot_isinstance (pa_cons (pv 0) (pa_cons (pe_bltn (v := .ty "int") (by rfl) T.int_ boot_int rfl) pa_nil))) (pe_one (pe_not (pe_callB (c_isi (K := K) rfl) (by rfl) T.isinstance_ boot_isinstance (pa_cons (pv 0) (pa_cons (pe_bltn (v := .ty "bool") (by rfl) T.bool_ boot_bool rfl) pa_nil))))))))), fun x hd => ?_⟩) m (fun _ _ _ _ _ _ us hl => match us, hl with | [_], _ => rfl)
  exact ⟨[], False, js_ret ((jd_and (jd_isInt (jd_var rfl) jd_ty) fun _ => jd_not (jd_isBool (jd_var rfl) jd_ty)).eq rfl), fun z => z.elim⟩

abbrev N_agreed_by : List Str := ["near", "far", "some"]
theorem sc_agreed_by : FnScope N_agreed_by ["near", "far", "some"] (defScope s_agreed_by) := ⟨rfl, rfl, rfl, by decide +kernel, rfl, by decide +kernel, by decide +kernel⟩
def sg_agreed_by (C : Cn) : Sg (Ch × Ch × List Int) := ⟨fun x => IsSet x.1.n x.2.2 ∧ IsSet x.2.1.n x.2.2, fun x => [cho C x.1, cho C x.2.1, dt (sD x.2.2)], fun x => dt (.bool (agreedB x.1 x.2.1 x.2.2))⟩
def sp_agreed_by (C : Cn) : Sp := (sg_agreed_by C).sp
theorem ok_agreed_by {P : Program} {w : World} {K : PySem.W.Frag} {mg : Str → Option Value} {base : Heap} {C : Cn} {f : Addr} {fd : FuncData} (F : FunD K "agreed_by" "agreed_by" (defArgs s_agreed_by) (defBody s_agreed_by) (defScope s_agreed_by) [] [] f fd) (m : mg "agreed_by" = some (.ref f)) (T : Top K mg C) :
    Cal P w K mg base 1 "agreed_by" (sp_agreed_by C) [] := by
  refine cal_of F (fn_js (S := sg_agreed_by C) (k := 0) F sc_agreed_by (fun _ => rfl) fun cdv A outer s H E hr => ⟨_, PSs.nox ((pss_one (ps_ret (pe_and (pe_cmpR (o_eq (K := K) rfl hr.units) (pe_dget (hu_of hr) (e_fld (K := K) rfl (pv 0) rfl) (pv 2) (fun _ _ => rfl)) (pv 2) (nomark _)) (pe_one (pe_cmpR (o_eq (K := K) rfl hr.units) (pe_dget (hu_of hr) (e_fld (K := K) rfl (pv 1) rfl) (pv 2) (fun _ _ => rfl)) (pv 2) (nomark _))))))), fun x hd => ?_⟩) m (fun _ _ _ _ _ _ us hl => match us, hl with | [_, _, _], _ => rfl)
  exact ⟨[], False, js_ret (jd_and (jd_eqSet (jd_table T (jd_var rfl) (jd_var rfl) hd.1) (jd_var rfl)) fun _ => jd_eqSet (jd_table T (jd_var rfl) (jd_var rfl) hd.2) (jd_var rfl)), fun z => z.elim⟩

abbrev N_is_set : List Str := ["offers", "thing", "before", "one"]
theorem sc_is_set : FnScope N_is_set ["offers", "thing"] (defScope s_is_set) := ⟨rfl, rfl, rfl, by decide +kernel, rfl, by decide +kernel, by decide +kernel⟩
def sg_is_set (C : Cn) : Sg (Nat × List Int) := ⟨fun x => IsSet x.1 x.2, fun x => [dt (.int x.1), dt (sD x.2)], fun _ => dt (.bool true)⟩
def sp_is_set (C : Cn) : Sp := (sg_is_set C).sp
/-- what stands ahead of the i-th -/
def ahead (s : List Int) (i : Nat) : Int := if i = 0 then -1 else s.getD (i - 1) 0
theorem ahead_ok {n : Nat} {s : List Int} (h : IsSet n s) {i : Nat} {a : Int} (ha : s[i]? = some a) : (decide (ahead s i < a) && decide (a < (n : Int))) = true := by
  obtain ⟨hi, e⟩ := List.getElem?_eq_some_iff.mp ha
  have hm := h.2 a (List.mem_of_getElem? ha)
  rw [Bool.and_eq_true, decide_eq_true_eq, decide_eq_true_eq]
  refine ⟨?_, hm.2⟩
  unfold ahead
  split
  · omega
  · rename_i h0
    have h1 : i - 1 < s.length := by omega
    rw [List.getD_eq_getElem?_getD, List.getElem?_eq_getElem h1]
    have := List.pairwise_iff_getElem.mp h.1 (i - 1) i h1 hi (by omega)
    rw [e] at this
    exact this
theorem ok_is_set {P : Program} {w : World} {K : PySem.W.Frag} {mg : Str → Option Value} {base : Heap} {C : Cn} {f : Addr} {fd : FuncData} (F : FunD K "is_set" "is_set" (defArgs s_is_set) (defBody s_is_set) (defScope s_is_set) [] [] f fd) (m : mg "is_set" = some (.ref f)) (T : Top K mg C) (c_is_whole : Cal P w K mg base 1 "is_whole" (sp_is_whole C) []) :
    Cal P w K mg base 2 "is_set" (sp_is_set C) [] := by
  refine cal_of F (fn_js (S := sg_is_set C) (k := 1) F sc_is_set (fun _ => rfl) fun cdv A outer s H E hr => ⟨_, PSs.nox ((pss_cons (ps_if (pt_not (pt_val (pe_callB (c_isi (K := K) rfl) (by rfl) T.isinstance_ boot_isinstance (pa_cons (pv 1) (pa_cons (pe_bltn (v := .ty "tuple") (by rfl) T.tuple_ boot_tuple rfl) pa_nil))))) (pss_one (ps_ret pe_bl)) pss_nil)
    (pss_cons (ps_set (i := 2) sc_is_set.nd rfl (Or.inl rfl) (pe_un un_neg pe_int))
    (pss_cons (ps_for PassesOwn.never rfl (i_seq (K := K) rfl (pv 1)) (pg_name (i := 3) sc_is_set.nd rfl (Or.inl rfl)) (pss_cons (ps_if (PW.pt (pw_or (pt_not (pt_val (pe_c c_is_whole hr (by decide) (by rfl) (pa_cons (pv 3) pa_nil)))) (pw_or1 (pt_not (pt_chain op_lt op_lt (pv 2) (pv 3) (pv 0)))))) (pss_one (ps_ret pe_bl)) pss_nil)
    (pss_one (ps_set (i := 2) sc_is_set.nd rfl (Or.inl rfl) (pv 3)))))
    (pss_one (ps_ret pe_bl)))))), fun x hd => ?_⟩) m (fun _ _ _ _ _ _ us hl => match us, hl with | [_, _], _ => rfl)
  obtain ⟨n, s⟩ := x
  refine ⟨[], False, js_seq (js_guard (jt_not (jt_B (jd_isTup (jd_var rfl) jd_ty)))) fun _ => js_seq (js_weak (js_asg (jd_neg jd_int)) (Γ2 := [some (dt (.int n)), some (dt (sD s)), some (dt (.int (ahead s 0))), none]) ⟨rfl, rfl, rfl, trivial⟩) fun _ =>
    js_seq (js_for (xs := s) (bind := fun a Γ => Γ.set 3 (some (dt (.int a)))) (Γs := fun i => [some (dt (.int n)), some (dt (sD s)), some (dt (.int (ahead s i))), none]) (C := fun _ => True) (ji_ints (jd_var rfl)) (tg_name 3) trivial (fun i a ha _ => ?_)) fun _ => js_ret jd_bl, fun z => z.elim⟩
  refine js_seq (js_guard (Jt.eq (jt_or (jt_not (jt_B (jd_call (S := sg_is_whole C) a trivial (ja_cons (jd_var rfl) ja_nil)))) fun _ => jt_not (jt_test (jd_ltlt (jd_var rfl) (jd_var rfl) (jd_var rfl)))) ?_)) fun _ => js_weak (js_asg (jd_var rfl)) ⟨rfl, rfl, ?_, trivial⟩
  · rw [ahead_ok hd ha]; rfl
  · show some (dt (.int a)) = some (dt (.int (ahead s (i + 1))))
    unfold ahead
    rw [if_neg (by omega), Nat.add_sub_cancel, List.getD_eq_getElem?_getD, ha]
    rfl
end Ost
set_option Elab.async false
set_option linter.all false
set_option maxRecDepth 100000
set_option maxHeartbeats 4000000
/-! D2: defs over sets. -/
namespace Ost
open PySem PySem.Spec PyProof.Rows L2
open C8 (Cal pe_c Mak pe_mk Met pe_gc)

abbrev N_list_first : List Str := ["row", "some", "one"]
theorem sc_list_first : FnScope N_list_first ["row", "some"] (defScope s_list_first) := ⟨rfl, rfl, rfl, by decide +kernel, rfl, by decide +kernel, by decide +kernel⟩
def optD : Option Int → PyData
  | none => .none
  | some x => .int x
def sg_list_first (C : Cn) : Sg (List Int × List Int) := ⟨fun _ => True, fun x => [dt (sD x.1), dt (sD x.2)], fun x => dt (optD (firstIn x.1 x.2))⟩
def sp_list_first (C : Cn) : Sp := (sg_list_first C).sp
theorem first_hit {row s : List Int} {i : Nat} {a : Int} (ha : row[i]? = some a) (hc : ∀ b ∈ row.take i, s.contains b = false) (h : s.contains a = true) : firstIn row s = some a := by
  have e : row = row.take i ++ a :: row.drop (i + 1) := by
    have h1 : row.drop i = a :: row.drop (i + 1) := by
      obtain ⟨hi, e⟩ := List.getElem?_eq_some_iff.mp ha
      rw [← e, List.drop_eq_getElem_cons hi]
    rw [← h1, List.take_append_drop]
  unfold firstIn
  rw [e, List.find?_append]
  have : (row.take i).find? (fun x => s.contains x) = none := List.find?_eq_none.mpr fun b hb => by rw [hc b hb]; exact Bool.false_ne_true
  rw [this, List.find?_cons_of_pos h]
  rfl
theorem first_miss {row s : List Int} (hc : ∀ b ∈ row, s.contains b = false) : firstIn row s = none := List.find?_eq_none.mpr fun b hb => by rw [hc b hb]; exact Bool.false_ne_true
theorem ok_list_first {P : Program} {w : World} {K : PySem.W.Frag} {mg : Str → Option Value} {base : Heap} {C : Cn} {f : Addr} {fd : FuncData} (F : FunD K "list_first" "list_first" (defArgs s_list_first) (defBody s_list_first) (defScope s_list_first) [] [] f fd) (m : mg "list_first" = some (.ref f)) (T : Top K mg C) :
    Cal P w K mg base 1 "list_first" (sp_list_first C) [] := by
  refine cal_of F (fn_js (S := sg_list_first C) (k := 0) F sc_list_first (fun _ => rfl) fun cdv A outer s H E hr => ⟨_, PSs.nox ((pss_cons (ps_for PassesOwn.never rfl (i_seq (K := K) rfl (pv 0)) (pg_name (i := 2) sc_list_first.nd rfl (Or.inl rfl)) (pss_one (ps_if (pt_cmpR (o_in (K := K) (w := w) rfl rfl (hu65 hr)) (pv 2) (pv 1) (by rfl)) (pss_one (ps_ret (pv 2))) pss_nil)))
    (pss_one (ps_ret pe_non)))), fun x hd => ?_⟩) m (fun _ _ _ _ _ _ us hl => match us, hl with | [_, _], _ => rfl)
  obtain ⟨row, s⟩ := x
  refine ⟨[some (dt (sD row)), some (dt (sD s)), none], False, js_seq (js_for (xs := row) (bind := fun a Γ => Γ.set 2 (some (dt (.int a)))) (Γs := fun i => [some (dt (sD row)), some (dt (sD s)), none]) (C := fun i => ∀ b ∈ row.take i, s.contains b = false) (ji_ints (jd_var rfl)) (tg_name 2) (fun b hb => by simp at hb) (fun i a ha hc => ?_)) (fun c => js_ret (jd_non.eq ?_)), fun z => z.elim⟩
  · refine js_weak (js_if (jt_test (jd_inI (jd_var rfl) (jd_var rfl))) (fun h => js_ret ((jd_var rfl : Jd _ _ (dt (.int a))).eq ?_)) (fun h => js_next fun b hb => ?_)) (Γ1 := [some (dt (sD row)), some (dt (sD s)), some (dt (.int a))]) ⟨rfl, rfl, trivial⟩
    · show PyData.int a = optD (firstIn row s)
      rw [first_hit ha hc h]
      rfl
    · rw [take_snoc ha] at hb
      rcases List.mem_append.mp hb with hb | hb
      · exact hc b hb
      · rw [List.mem_singleton.mp hb]
        exact h
  · rw [List.take_of_length_le (Nat.le_refl _)] at c
    show PyData.none = optD (firstIn row s)
    rw [first_miss c]
    rfl

abbrev N_chooser_is_part : List Str := ["part", "some", "one"]
theorem sc_chooser_is_part : FnScope N_chooser_is_part ["part", "some"] (defScope s_chooser_is_part) := ⟨rfl, rfl, rfl, by decide +kernel, rfl, by decide +kernel, by decide +kernel⟩
def sg_chooser_is_part (C : Cn) : Sg (List Int × List Int) := ⟨fun x => ∀ y ∈ x.1, y ∈ x.2, fun x => [dt (sD x.1), dt (sD x.2)], fun x => dt (.bool true)⟩
def sp_chooser_is_part (C : Cn) : Sp := (sg_chooser_is_part C).sp
theorem ok_chooser_is_part {P : Program} {w : World} {K : PySem.W.Frag} {mg : Str → Option Value} {base : Heap} {C : Cn} {f : Addr} {fd : FuncData} (F : FunD K "chooser_is_part" "chooser_is_part" (defArgs s_chooser_is_part) (defBody s_chooser_is_part) (defScope s_chooser_is_part) [] [] f fd) (m : mg "chooser_is_part" = some (.ref f)) (T : Top K mg C) :
    Cal P w K mg base 1 "chooser_is_part" (sp_chooser_is_part C) [] := by
  refine cal_of F (fn_js (S := sg_chooser_is_part C) (k := 0) F sc_chooser_is_part (fun _ => rfl) fun cdv A outer s H E hr => ⟨_, PSs.nox ((pss_cons (ps_for PassesOwn.never rfl (i_seq (K := K) rfl (pv 0)) (pg_name (i := 2) sc_chooser_is_part.nd rfl (Or.inl rfl)) (pss_one (ps_if (pt_cmpR (o_notIn (K := K) (w := w) rfl rfl (hu65 hr)) (pv 2) (pv 1) (by rfl)) (pss_one (ps_ret pe_bl)) pss_nil)))
    (pss_one (ps_ret pe_bl)))), fun x hd => ?_⟩) m (fun _ _ _ _ _ _ us hl => match us, hl with | [_, _], _ => rfl)
  obtain ⟨part, s⟩ := x
  refine ⟨[some (dt (sD part)), some (dt (sD s)), none], False, js_seq (js_for (xs := part) (bind := fun a Γ => Γ.set 2 (some (dt (.int a)))) (Γs := fun i => [some (dt (sD part)), some (dt (sD s)), none]) (C := fun _ => True) (ji_ints (jd_var rfl)) (tg_name 2) trivial (fun i a ha _ => ?_)) (fun _ => js_ret jd_bl), fun z => z.elim⟩
  refine js_weak (js_guard (Jt.eq (jt_test (jd_notInI (jd_var rfl) (jd_var rfl))) ?_)) (Γ1 := [some (dt (sD part)), some (dt (sD s)), some (dt (.int a))]) ⟨rfl, rfl, trivial⟩
  have : a ∈ s := hd a (List.mem_of_getElem? ha)
  simp [this]

abbrev N_side_is_part : List Str := ["part", "some", "offer"]
theorem sc_side_is_part : FnScope N_side_is_part ["part", "some"] (defScope s_side_is_part) := ⟨rfl, rfl, rfl, by decide +kernel, rfl, by decide +kernel, by decide +kernel⟩
def sg_side_is_part (C : Cn) : Sg (List Int × List Int) := ⟨fun x => x.1.length ≤ 100, fun x => [dt (sD x.1), dt (sD x.2)], fun x => dt (.bool (x.1.all fun y => x.2.contains y))⟩
def sp_side_is_part (C : Cn) : Sp := (sg_side_is_part C).sp
theorem ok_side_is_part {P : Program} {w : World} {K : PySem.W.Frag} {mg : Str → Option Value} {base : Heap} {C : Cn} {f : Addr} {fd : FuncData} (F : FunD K "side_is_part" "side_is_part" (defArgs s_side_is_part) (defBody s_side_is_part) (defScope s_side_is_part) [] [] f fd) (m : mg "side_is_part" = some (.ref f)) (T : Top K mg C) :
    Cal P w K mg base 1 "side_is_part" (sp_side_is_part C) [] := by
  refine cal_of F (fn_js (S := sg_side_is_part C) (k := 0) F sc_side_is_part (fun _ => rfl) fun cdv A outer s H E hr => ⟨_, PSs.nox ((pss_one (ps_ret (pe_callB (c_all (K := K) rfl rfl) (by rfl) T.all_ boot_all (pa_cons (pe_lc (own := [("offer", 2)]) rfl sc_side_is_part.nd (i_seq (K := K) rfl (pv 0)) (blkOk_by (own := [("offer", 2)]) (N := N_side_is_part) (sc := defScope s_side_is_part) (by decide +kernel)) (fun _ _ _ _ _ => (pg_name (i := 2) sc_side_is_part.nd rfl (Or.inl rfl))) (fun _ _ _ _ _ => pts_nil) (fun _ _ _ _ _ => (pe_cmpR (o_in (K := K) (w := w) rfl rfl (hu65 hr)) (pv 2) (pv 1) (by rfl)))) pa_nil))))), fun x hd => ?_⟩) m (fun _ _ _ _ _ _ us hl => match us, hl with | [_, _], _ => rfl)
  obtain ⟨part, s⟩ := x
  have hl : part.length ≤ 100 := hd
  refine ⟨[], False, js_ret ((jd_all (bs := part.map fun y => s.contains y) (jd_of_jf (Jf.eq (jf_lc (xs := part) (bind := fun a Γ => Γ.set 2 (some (dt (.int a)))) (p := fun _ => true) (q := fun y => .bool (s.contains y)) (ji_ints (jd_var rfl)) (tg_name 2) (fun a ha => jt_yes) (fun a ha _ => jd_inI (jd_var rfl) (jd_var rfl)) (by omega) (fun a ha _ => by simp [noL])) ?_))).eq ?_), fun z => z.elim⟩
  · rw [List.filter_eq_self.mpr (fun _ _ => rfl), List.map_map]
    rfl
  · rw [List.all_map]
    rfl

abbrev N_side_set_without : List Str := ["some", "offer", "other"]
theorem sc_side_set_without : FnScope N_side_set_without ["some", "offer"] (defScope s_side_set_without) := ⟨rfl, rfl, rfl, by decide +kernel, rfl, by decide +kernel, by decide +kernel⟩
def sg_side_set_without (C : Cn) : Sg (List Int × Int) := ⟨fun x => x.1.length ≤ 100, fun x => [dt (sD x.1), dt (.int x.2)], fun x => dt (sD (without x.1 x.2))⟩
def sp_side_set_without (C : Cn) : Sp := (sg_side_set_without C).sp
theorem ok_side_set_without {P : Program} {w : World} {K : PySem.W.Frag} {mg : Str → Option Value} {base : Heap} {C : Cn} {f : Addr} {fd : FuncData} (F : FunD K "side_set_without" "side_set_without" (defArgs s_side_set_without) (defBody s_side_set_without) (defScope s_side_set_without) [] [] f fd) (m : mg "side_set_without" = some (.ref f)) (T : Top K mg C) :
    Cal P w K mg base 1 "side_set_without" (sp_side_set_without C) [] := by
  refine cal_of F (fn_js (S := sg_side_set_without C) (k := 0) F sc_side_set_without (fun _ => rfl) fun cdv A outer s H E hr => ⟨_, PSs.nox ((pss_one (ps_ret (pe_callTy (c_tup (K := K) rfl) (by rfl) T.tuple_ boot_tuple (pa_cons (pe_lc (own := [("other", 2)]) rfl sc_side_set_without.nd (i_seq (K := K) rfl (pv 0)) (blkOk_by (own := [("other", 2)]) (N := N_side_set_without) (sc := defScope s_side_set_without) (by decide +kernel)) (fun _ _ _ _ _ => (pg_name (i := 2) sc_side_set_without.nd rfl (Or.inl rfl))) (fun _ _ _ _ _ => pts_one (pt_cmpR (o_ne (K := K) rfl hr.units) (pv 2) (pv 1) (nomark _))) (fun _ _ _ _ _ => (pv 2))) pa_nil))))), fun x hd => ?_⟩) m (fun _ _ _ _ _ _ us hl => match us, hl with | [_, _], _ => rfl)
  obtain ⟨s, o⟩ := x
  have hl : s.length ≤ 100 := hd
  exact ⟨[], False, js_ret (jd_filter (s := s) (ji_ints (jd_var rfl)) (fun a ha => jt_test (jd_neInt (jd_var rfl) (jd_var rfl))) (fun a ha => jd_var rfl) (by omega)), fun z => z.elim⟩

abbrev N_side_is_offer : List Str := ["some", "thing"]
theorem sc_side_is_offer : FnScope N_side_is_offer ["some", "thing"] (defScope s_side_is_offer) := ⟨rfl, rfl, rfl, by decide +kernel, rfl, by decide +kernel, by decide +kernel⟩
def sg_side_is_offer (C : Cn) : Sg (List Int × Int) := ⟨fun _ => True, fun x => [dt (sD x.1), dt (.int x.2)], fun x => dt (.bool (x.1.contains x.2))⟩
def sp_side_is_offer (C : Cn) : Sp := (sg_side_is_offer C).sp
theorem ok_side_is_offer {P : Program} {w : World} {K : PySem.W.Frag} {mg : Str → Option Value} {base : Heap} {C : Cn} {f : Addr} {fd : FuncData} (F : FunD K "side_is_offer" "side_is_offer" (defArgs s_side_is_offer) (defBody s_side_is_offer) (defScope s_side_is_offer) [] [] f fd) (m : mg "side_is_offer" = some (.ref f)) (T : Top K mg C) (c_is_whole : Cal P w K mg base 1 "is_whole" (sp_is_whole C) []) :
    Cal P w K mg base 2 "side_is_offer" (sp_side_is_offer C) [] := by
  refine cal_of F (fn_js (S := sg_side_is_offer C) (k := 1) F sc_side_is_offer (fun _ => rfl) fun cdv A outer s H E hr => ⟨_, PSs.nox ((pss_one (ps_ret (pe_and (pe_c c_is_whole hr (by decide) (by rfl) (pa_cons (pv 1) pa_nil)) (pe_one (pe_cmpR (o_in (K := K) (w := w) rfl rfl (hu65 hr)) (pv 1) (pv 0) (by rfl))))))), fun x hd => ?_⟩) m (fun _ _ _ _ _ _ us hl => match us, hl with | [_, _], _ => rfl)
  exact ⟨[], False, js_ret ((jd_and (jd_call (S := sg_is_whole C) x.2 trivial (ja_cons (jd_var rfl) ja_nil)) fun _ => jd_inI (jd_var rfl) (jd_var rfl)).eq (by rw [Bool.true_and])), fun z => z.elim⟩

abbrev N_together : List Str := ["one", "other"]
theorem sc_together : FnScope N_together ["one", "other"] (defScope s_together) := ⟨rfl, rfl, rfl, by decide +kernel, rfl, by decide +kernel, by decide +kernel⟩
def sg_together (C : Cn) : Sg (List Int × List Int) := ⟨fun x => x.1.length + x.2.length < 64, fun x => [dt (sD x.1), dt (sD x.2)], fun x => dt (sD (tog x.1 x.2))⟩
def sp_together (C : Cn) : Sp := (sg_together C).sp
theorem ok_together {P : Program} {w : World} {K : PySem.W.Frag} {mg : Str → Option Value} {base : Heap} {C : Cn} {f : Addr} {fd : FuncData} (F : FunD K "together" "together" (defArgs s_together) (defBody s_together) (defScope s_together) [] [] f fd) (m : mg "together" = some (.ref f)) (T : Top K mg C) :
    Cal P w K mg base 1 "together" (sp_together C) [] := by
  refine cal_of F (fn_js (S := sg_together C) (k := 0) F sc_together (fun _ => rfl) fun cdv A outer s H E hr => ⟨_, PSs.nox ((pss_one (ps_ret (pe_callTy (c_tup (K := K) rfl) (by rfl) T.tuple_ boot_tuple (pa_cons (pe_callB (c_sorted (w := w) rfl rfl (hu65 hr)) (by rfl) T.sorted_ boot_sorted (pa_cons (pe_callTy (c_set (K := K) (w := w) rfl rfl rfl) (by rfl) T.set_ boot_set (pa_cons (pe_op (o_add (K := K) rfl) (pv 0) (pv 1)) pa_nil)) pa_nil)) pa_nil))))), fun x hd => ?_⟩) m (fun _ _ _ _ _ _ us hl => match us, hl with | [_, _], _ => rfl)
  obtain ⟨s, t⟩ := x
  have hl : s.length + t.length < 64 := hd
  have e : s.map PyData.int ++ t.map PyData.int = (s ++ t).map PyData.int := List.map_append.symm
  refine ⟨[], False, js_ret (jd_tupOf (jd_of_jf (jf_sortSet (s := s ++ t) (jd_set ((jd_cat (jd_var rfl) (jd_var rfl) ?_).eq ?_) ?_) ?_))), fun z => z.elim⟩
  · show (s.map PyData.int).length + (t.map PyData.int).length ≤ 1000
    rw [List.length_map, List.length_map]; omega
  · rw [e]
  · rw [List.length_append]; omega
  · rw [List.length_append]; omega

abbrev N_side_set_with : List Str := ["some", "offer"]
theorem sc_side_set_with : FnScope N_side_set_with ["some", "offer"] (defScope s_side_set_with) := ⟨rfl, rfl, rfl, by decide +kernel, rfl, by decide +kernel, by decide +kernel⟩
def sg_side_set_with (C : Cn) : Sg (List Int × Int) := ⟨fun x => x.1.length < 60, fun x => [dt (sD x.1), dt (.int x.2)], fun x => dt (sD (withO x.1 x.2))⟩
def sp_side_set_with (C : Cn) : Sp := (sg_side_set_with C).sp
theorem ok_side_set_with {P : Program} {w : World} {K : PySem.W.Frag} {mg : Str → Option Value} {base : Heap} {C : Cn} {f : Addr} {fd : FuncData} (F : FunD K "side_set_with" "side_set_with" (defArgs s_side_set_with) (defBody s_side_set_with) (defScope s_side_set_with) [] [] f fd) (m : mg "side_set_with" = some (.ref f)) (T : Top K mg C) (c_together : Cal P w K mg base 1 "together" (sp_together C) []) :
    Cal P w K mg base 2 "side_set_with" (sp_side_set_with C) [] := by
  refine cal_of F (fn_js (S := sg_side_set_with C) (k := 1) F sc_side_set_with (fun _ => rfl) fun cdv A outer s H E hr => ⟨_, PSs.nox ((pss_one (ps_ret (pe_c c_together hr (by decide) (by rfl) (pa_cons (pv 0) (pa_cons (pe_tup (pa_cons (pv 1) pa_nil)) pa_nil)))))), fun x hd => ?_⟩) m (fun _ _ _ _ _ _ us hl => match us, hl with | [_, _], _ => rfl)
  obtain ⟨s, o⟩ := x
  have hl : s.length < 60 := hd
  exact ⟨[], False, js_ret (jd_call (S := sg_together C) (s, [o]) (show s.length + 1 < 64 by omega) (ja_cons (jd_var rfl) (ja_cons (jd_one (jd_var rfl)) ja_nil))), fun z => z.elim⟩

abbrev N_same_offers : List Str := ["things", "thing"]
theorem sc_same_offers : FnScope N_same_offers ["things"] (defScope s_same_offers) := ⟨rfl, rfl, rfl, by decide +kernel, rfl, by decide +kernel, by decide +kernel⟩
def sg_same_offers (C : Cn) : Sg (Ch × Ch) := ⟨fun x => x.1.n = x.2.n ∧ x.1.n < 1000, fun x => [vlT [cho C x.1, cho C x.2]], fun x => dt .none⟩
def sp_same_offers (C : Cn) : Sp := (sg_same_offers C).sp
theorem ok_same_offers {P : Program} {w : World} {K : PySem.W.Frag} {mg : Str → Option Value} {base : Heap} {C : Cn} {f : Addr} {fd : FuncData} (F : FunD K "same_offers" "same_offers" (defArgs s_same_offers) (defBody s_same_offers) (defScope s_same_offers) [] [] f fd) (m : mg "same_offers" = some (.ref f)) (T : Top K mg C) (LC : LenOk P w K mg base C) :
    Cal P w K mg base 3 "same_offers" (sp_same_offers C) [] := by
  refine cal_of F (fn_js (S := sg_same_offers C) (k := 2) F sc_same_offers (fun _ => rfl) fun cdv A outer s H E hr => ⟨_, PSs.nox ((pss_one (ps_for PassesOwn.never rfl (i_seq (K := K) rfl (pv 0)) (pg_name (i := 1) sc_same_offers.nd rfl (Or.inl rfl)) (pss_one (ps_if (pt_cmpR (o_ne (K := K) rfl hr.units) (pe_callB (call_lenC LC (hr.mono (by decide))) (by rfl) T.len_ boot_len (pa_cons (pv 1) pa_nil)) (pe_callB (call_lenC LC (hr.mono (by decide))) (by rfl) T.len_ boot_len (pa_cons (pe_ix (x_ix (K := K) rfl) (pv 0) pe_int (fun _ _ => rfl)) pa_nil)) (nomark _)) (pss_one ps_never) pss_nil))))), fun x hd => ?_⟩) m (fun _ _ _ _ _ _ us hl => match us, hl with | [_], _ => rfl)
  obtain ⟨a, b⟩ := x
  obtain ⟨he, hn⟩ := (hd : a.n = b.n ∧ a.n < 1000)
  refine ⟨[some (vlT [cho C a, cho C b]), none], True, js_for (xs := [a, b]) (Y := cho C) (bind := fun c Γ => Γ.set 1 (some (cho C c))) (Γs := fun i => [some (vlT [cho C a, cho C b]), none]) (C := fun _ => True) (ji_vl (jd_var rfl)) (tg_name 1) trivial (fun i c hc _ => ?_), fun _ H => dt_non⟩
  have hcn : c.n = a.n := by
    have := List.mem_of_getElem? hc
    simp only [List.mem_cons, List.not_mem_nil, or_false] at this
    rcases this with rfl | rfl
    · rfl
    · exact he.symm
  refine js_weak (js_guard (Jt.eq (jt_test (jd_neInt (jd_lenCh (c := c) (jd_var rfl) (show c.n < 1000 by rw [hcn]; exact hn)) (jd_lenCh (c := a) (jd_ixV (jd_var rfl) jd_int rfl) hn))) ?_)) (Γ1 := [some (vlT [cho C a, cho C b]), some (cho C c)]) ⟨rfl, trivial⟩
  rw [hcn]
  simp

abbrev N_side_check_set : List Str := ["chooser", "thing"]
theorem sc_side_check_set : FnScope N_side_check_set ["chooser", "thing"] (defScope s_side_check_set) := ⟨rfl, rfl, rfl, by decide +kernel, rfl, by decide +kernel, by decide +kernel⟩
def sg_side_check_set (C : Cn) : Sg (Ch × List Int) := ⟨fun x => IsSet x.1.n x.2 ∧ x.1.n < 1000, fun x => [cho C x.1, dt (sD x.2)], fun x => dt .none⟩
def sp_side_check_set (C : Cn) : Sp := (sg_side_check_set C).sp
theorem ok_side_check_set {P : Program} {w : World} {K : PySem.W.Frag} {mg : Str → Option Value} {base : Heap} {C : Cn} {f : Addr} {fd : FuncData} (F : FunD K "side_check_set" "side_check_set" (defArgs s_side_check_set) (defBody s_side_check_set) (defScope s_side_check_set) [] [] f fd) (m : mg "side_check_set" = some (.ref f)) (T : Top K mg C) (LC : LenOk P w K mg base C) (c_is_set : Cal P w K mg base 2 "is_set" (sp_is_set C) []) :
    Cal P w K mg base 3 "side_check_set" (sp_side_check_set C) [] := by
  refine cal_of F (fn_js (S := sg_side_check_set C) (k := 2) F sc_side_check_set (fun _ => rfl) fun cdv A outer s H E hr => ⟨_, PSs.nox ((pss_one (ps_if (pt_not (pt_val (pe_c c_is_set hr (by decide) (by rfl) (pa_cons (pe_callB (call_lenC LC (hr.mono (by decide))) (by rfl) T.len_ boot_len (pa_cons (pv 0) pa_nil)) (pa_cons (pv 1) pa_nil))))) (pss_one ps_never) pss_nil))), fun x hd => ?_⟩) m (fun _ _ _ _ _ _ us hl => match us, hl with | [_, _], _ => rfl)
  obtain ⟨a, s⟩ := x
  obtain ⟨hs, hn⟩ := (hd : IsSet a.n s ∧ a.n < 1000)
  exact ⟨_, True, js_guard (Jt.eq (jt_not (jt_B (jd_call (S := sg_is_set C) (a.n, s) hs (ja_cons (jd_lenCh (jd_var rfl) hn) (ja_cons (jd_var rfl) ja_nil))))) rfl), fun _ H => dt_non⟩

/-- two sides, what stands -/
structure Dom2 (a b : Ch) (st : List Int) : Prop where
  two : Two a b a.n
  hst : IsSet a.n st
/-- .. a part of it -/
structure Dom3 (a b : Ch) (st p : List Int) : Prop extends Dom2 a b st where
  hpt : IsSet a.n p
  sub : ∀ x ∈ p, x ∈ st
theorem Dom2.n6 {a b : Ch} {st : List Int} (d : Dom2 a b st) : a.n ≤ 6 := d.two.few
theorem Dom2.bn {a b : Ch} {st : List Int} (d : Dom2 a b st) : b.n = a.n := d.two.bn

abbrev N_side_check_standing : List Str := ["near", "far", "standing"]
theorem sc_side_check_standing : FnScope N_side_check_standing ["near", "far", "standing"] (defScope s_side_check_standing) := ⟨rfl, rfl, rfl, by decide +kernel, rfl, by decide +kernel, by decide +kernel⟩
def sg_side_check_standing (C : Cn) : Sg (Ch × Ch × List Int) := ⟨fun x => Dom2 x.1 x.2.1 x.2.2, fun x => [cho C x.1, cho C x.2.1, dt (sD x.2.2)], fun x => dt .none⟩
def sp_side_check_standing (C : Cn) : Sp := (sg_side_check_standing C).sp
theorem ok_side_check_standing {P : Program} {w : World} {K : PySem.W.Frag} {mg : Str → Option Value} {base : Heap} {C : Cn} {f : Addr} {fd : FuncData} (F : FunD K "side_check_standing" "side_check_standing" (defArgs s_side_check_standing) (defBody s_side_check_standing) (defScope s_side_check_standing) [] [] f fd) (m : mg "side_check_standing" = some (.ref f)) (T : Top K mg C) (c_same_offers : Cal P w K mg base 3 "same_offers" (sp_same_offers C) []) (c_side_check_set : Cal P w K mg base 3 "side_check_set" (sp_side_check_set C) []) :
    Cal P w K mg base 4 "side_check_standing" (sp_side_check_standing C) [] := by
  refine cal_of F (fn_js (S := sg_side_check_standing C) (k := 3) F sc_side_check_standing (fun _ => rfl) fun cdv A outer s H E hr => ⟨_, PSs.nox ((pss_cons (ps_expr (pe_c c_same_offers hr (by decide) (by rfl) (pa_cons (pe_lst (pa_cons (pv 0) (pa_cons (pv 1) pa_nil))) pa_nil)))
    (pss_one (ps_expr (pe_c c_side_check_set hr (by decide) (by rfl) (pa_cons (pv 0) (pa_cons (pv 2) pa_nil))))))), fun x hd => ?_⟩) m (fun _ _ _ _ _ _ us hl => match us, hl with | [_, _, _], _ => rfl)
  obtain ⟨a, b, s⟩ := x
  have hd : Dom2 a b s := hd
  have h6 := hd.n6
  exact ⟨_, True, js_seq (js_drop (jd_call (S := sg_same_offers C) (a, b) ⟨hd.bn.symm, by show a.n < 1000; omega⟩ (ja_cons (jd_lstV (ja_cons (jd_var rfl) (ja_cons (jd_var rfl) ja_nil)) (by simp)) ja_nil))) fun _ =>
    js_drop (jd_call (S := sg_side_check_set C) (a, s) ⟨hd.hst, by show a.n < 1000; omega⟩ (ja_cons (jd_var rfl) (ja_cons (jd_var rfl) ja_nil))), fun _ H => dt_non⟩

abbrev N_side_check_part : List Str := ["near", "far", "standing", "part"]
theorem sc_side_check_part : FnScope N_side_check_part ["near", "far", "standing", "part"] (defScope s_side_check_part) := ⟨rfl, rfl, rfl, by decide +kernel, rfl, by decide +kernel, by decide +kernel⟩
def sg_side_check_part (C : Cn) : Sg (Ch × Ch × List Int × List Int) := ⟨fun x => Dom3 x.1 x.2.1 x.2.2.1 x.2.2.2, fun x => [cho C x.1, cho C x.2.1, dt (sD x.2.2.1), dt (sD x.2.2.2)], fun x => dt .none⟩
def sp_side_check_part (C : Cn) : Sp := (sg_side_check_part C).sp
theorem ok_side_check_part {P : Program} {w : World} {K : PySem.W.Frag} {mg : Str → Option Value} {base : Heap} {C : Cn} {f : Addr} {fd : FuncData} (F : FunD K "side_check_part" "side_check_part" (defArgs s_side_check_part) (defBody s_side_check_part) (defScope s_side_check_part) [] [] f fd) (m : mg "side_check_part" = some (.ref f)) (T : Top K mg C) (LC : LenOk P w K mg base C) (c_side_check_standing : Cal P w K mg base 4 "side_check_standing" (sp_side_check_standing C) []) (c_is_set : Cal P w K mg base 2 "is_set" (sp_is_set C) []) (c_side_is_part : Cal P w K mg base 1 "side_is_part" (sp_side_is_part C) []) :
    Cal P w K mg base 5 "side_check_part" (sp_side_check_part C) [] := by
  refine cal_of F (fn_js (S := sg_side_check_part C) (k := 4) F sc_side_check_part (fun _ => rfl) fun cdv A outer s H E hr => ⟨_, PSs.nox ((pss_cons (ps_expr (pe_c c_side_check_standing hr (by decide) (by rfl) (pa_cons (pv 0) (pa_cons (pv 1) (pa_cons (pv 2) pa_nil)))))
    (pss_one (ps_if (PW.pt (pw_or (pt_not (pt_val (pe_c c_is_set hr (by decide) (by rfl) (pa_cons (pe_callB (call_lenC LC (hr.mono (by decide))) (by rfl) T.len_ boot_len (pa_cons (pv 0) pa_nil)) (pa_cons (pv 3) pa_nil))))) (pw_or1 (pt_not (pt_val (pe_c c_side_is_part hr (by decide) (by rfl) (pa_cons (pv 3) (pa_cons (pv 2) pa_nil)))))))) (pss_one ps_never) pss_nil)))), fun x hd => ?_⟩) m (fun _ _ _ _ _ _ us hl => match us, hl with | [_, _, _, _], _ => rfl)
  obtain ⟨a, b, s, p⟩ := x
  have hd : Dom3 a b s p := hd
  have h6 := hd.n6
  have hl := len6 hd.hpt h6
  refine ⟨_, True, js_seq (js_drop (jd_call (S := sg_side_check_standing C) (a, b, s) hd.toDom2 (ja_cons (jd_var rfl) (ja_cons (jd_var rfl) (ja_cons (jd_var rfl) ja_nil))))) fun _ =>
    js_guard (Jt.eq (jt_or (jt_not (jt_B (jd_call (S := sg_is_set C) (a.n, p) hd.hpt (ja_cons (jd_lenCh (jd_var rfl) (by omega)) (ja_cons (jd_var rfl) ja_nil))))) fun _ => jt_not (jt_B (jd_call (S := sg_side_is_part C) (p, s) (show p.length ≤ 100 by omega) (ja_cons (jd_var rfl) (ja_cons (jd_var rfl) ja_nil))))) ?_), fun _ H => dt_non⟩
  have : (p.all fun y => s.contains y) = true := List.all_eq_true.mpr fun x hx => by simp [hd.sub x hx]
  rw [this]
  rfl
end Ost
set_option Elab.async false
set_option linter.all false
set_option maxRecDepth 100000
set_option maxHeartbeats 4000000
/-! D3: presses. -/
namespace Ost
open PySem PySem.Spec PyProof.Rows L2
open C8 (Cal pe_c Mak pe_mk Met pe_gc)

/-! ### calls that hand back new lists -/
structure Sf (α : Type) where
  dom : α → Prop
  ts : α → List VT
  R : α → List PyData
def Sf.sp {α : Type} (S : Sf α) : Sp := fun vs H Q _ => ∃ x : α, S.dom x ∧ Fits (S.ts x) vs H ∧ ∀ l us H', Same H H' → H l = none → H' l = some (.lst us) → TpAll H' (S.R x) us → Q (.ref l) H'
theorem jf_call {Γ : Gm} {α : Type} {S : Sf α} {tg : TA} {E : XK} (x : α) (hd : S.dom x) (h : Ja Γ tg (S.ts x)) : Jf Γ (tCall S.sp [] E tg) (S.R x) := fun σ H ty Q k =>
  h σ H ty _ fun vs H1 e1 p1 => ⟨x, hd, by rw [List.append_nil]; exact p1, fun l us H2 e2 n h1 h2 => k l us H2 (e1.trans e2) (e1.free n) h1 h2⟩
theorem fn_jf {P : Program} {w : World} {K : PySem.W.Frag} {mg : Str → Option Value} {base : Heap} {α : Type} {S : Sf α} {x qual : Str} {st : Stmt} {f : Addr} {fd : FuncData} {N ps : List Str} {k : Nat}
    (F : FunD K x qual (defArgs st) (defBody st) (defScope st) [] [] f fd) (Sc : FnScope N ps (defScope st)) (hl : ∀ a, (S.ts a).length = ps.length)
    (hbody : ∀ (cdv : Value) (A : Around) (outer : List Env) (s : Shared) (H : Hp) (E : XK), Room k (A.deeper (envOfC qual (defScope st) s.heap.objs.size f cdv)) →
      ∃ te, PSs (cxOf L2.CX0 P w K mg base N qual (defScope st) f cdv A outer s H E) (defBody st) (tRet te) ∧
        ∀ a, S.dom a → Jf ((S.ts a).map some ++ List.replicate (N.length - (S.ts a).length) none) te (S.R a)) :
    FnOk P w K mg base L2.CX0 (k + 1) f fd ps S.sp := by
  refine F.ok Sc (fun vs H Q E h => ?_) (fun cdv A outer s H vs Q E hr h => ?_)
  · obtain ⟨a, _, ha, _⟩ := h
    rw [ha.length, hl]
  · obtain ⟨a, hd, ha, hq⟩ := h
    obtain ⟨te, ht, hj⟩ := hbody cdv A outer s H E hr
    exact ⟨_, ht, hj a hd _ H (ty_start ha N) _ fun l us H' e n h1 h2 => hq l us H' e n h1 h2⟩

abbrev N_wished_beside : List Str := ["near", "far", "standing", "some", "found", "offer", "whole"]
theorem sc_wished_beside : FnScope N_wished_beside ["near", "far", "standing", "some"] (defScope s_wished_beside) := ⟨rfl, rfl, rfl, by decide +kernel, rfl, by decide +kernel, by decide +kernel⟩
def sg_wished_beside (C : Cn) : Sg (Ch × Ch × List Int × List Int) := ⟨fun x => Two x.1 x.2.1 x.1.n ∧ IsSet x.1.n x.2.2.1 ∧ IsSet x.1.n x.2.2.2, fun x => [cho C x.1, cho C x.2.1, dt (sD x.2.2.1), dt (sD x.2.2.2)], fun x => dt (sD (wished x.1 x.2.1 x.2.2.1 x.2.2.2))⟩
def sp_wished_beside (C : Cn) : Sp := (sg_wished_beside C).sp
theorem ok_wished_beside {P : Program} {w : World} {K : PySem.W.Frag} {mg : Str → Option Value} {base : Heap} {C : Cn} {f : Addr} {fd : FuncData} (F : FunD K "wished_beside" "wished_beside" (defArgs s_wished_beside) (defBody s_wished_beside) (defScope s_wished_beside) [] [] f fd) (m : mg "wished_beside" = some (.ref f)) (T : Top K mg C) (c_side_set_with : Cal P w K mg base 2 "side_set_with" (sp_side_set_with C) []) :
    Cal P w K mg base 3 "wished_beside" (sp_wished_beside C) [] := by
  refine cal_of F (fn_jm (S := sg_wished_beside C) (k := 2) F sc_wished_beside (fun _ => rfl) fun cdv A outer s H E hr => ⟨_, PSs.nox ((pss_cons (ps_set (i := 4) sc_wished_beside.nd rfl (Or.inl rfl) (pe_lst pa_nil))
    (pss_cons (ps_for PassesOwn.never rfl (i_seq (K := K) rfl (pv 2)) (pg_name (i := 5) sc_wished_beside.nd rfl (Or.inl rfl)) (pss_one (ps_if (pt_cmpR (o_notIn (K := K) (w := w) rfl rfl (hu65 hr)) (pv 5) (pv 3) (by rfl)) (pss_cons (ps_set (i := 6) sc_wished_beside.nd rfl (Or.inl rfl) (pe_c c_side_set_with hr (by decide) (by rfl) (pa_cons (pv 3) (pa_cons (pv 5) pa_nil))))
    (pss_one (ps_if (PW.pt (pw_and (pt_cmpR (o_in (K := K) (w := w) rfl rfl (hu65 hr)) (pv 5) (pe_dget (hu_of hr) (e_fld (K := K) rfl (pv 0) rfl) (pv 6) (fun _ _ => rfl)) (by rfl)) (pw_and1 (pt_cmpR (o_in (K := K) (w := w) rfl rfl (hu65 hr)) (pv 5) (pe_dget (hu_of hr) (e_fld (K := K) rfl (pv 1) rfl) (pv 6) (fun _ _ => rfl)) (by rfl))))) (pss_one (ps_expr (pe_bm PySem.F.plainAttrs_list PySem.F.slot_list_append PySem.F.type_list_append mt_append (pv 4) (pa_cons (pv 5) pa_nil)))) pss_nil))) pss_nil)))
    (pss_one (ps_ret (pe_callTy (c_tup (K := K) rfl) (by rfl) T.tuple_ boot_tuple (pa_cons (pv 4) pa_nil))))))), fun x hd => ?_⟩) m (fun _ _ _ _ _ _ us hl => match us, hl with | [_, _, _, _], _ => rfl)
  obtain ⟨a, b, st, s⟩ := x
  have hd : Two a b a.n ∧ IsSet a.n st ∧ IsSet a.n s := hd
  obtain ⟨two, hst, hs⟩ := id hd
  have h6 := two.few
  have hl := len6 hst h6
  have hls := len6 hs h6
  let pw : Int → Bool := fun o => !s.contains o && ((a.f (withO s o)).contains o && (b.f (withO s o)).contains o)
  let A4 : Mm := [some (.arg (cho C a)), some (.arg (cho C b)), some (.arg (dt (sD st))), some (.arg (dt (sD s)))]
  refine ⟨[], False, jm_seq (jm_new (jf_lst (ds := []) ja_nil (by simp)) rfl) fun _ => jm_seq (jm_for (xs := st) (Y := fun o => .int o) (bd := fun o Γ => Γ.set 5 (some (.dat (.int o)))) (Γs := fun i => A4 ++ [some (.own (((st.take i).filter pw).map .int)), none, none]) (C := fun _ => True) (isT := true)
    (src_tup (jd_var rfl)) (fun o _ => noL_int o) (tm_name 5) trivial (fun i o ho _ => ?_)) (fun _ => jm_ret (jd_tupOf ((jd_var rfl : Jd _ _ (dt (.list (((st.take st.length).filter pw).map .int)))).eq (by rw [List.take_of_length_le (Nat.le_refl _)]; rfl)))), fun z => z.elim⟩
  have hon := hst.2 o (List.mem_of_getElem? ho)
  have hw : IsSet a.n (withO s o) := isSet_withO hs hon
  have hfl : ((st.take i).filter pw).length ≤ 6 := Nat.le_trans (filter_len pw st i) hl
  have no : ∀ {c : Bool}, pw o = false → Jm (A4 ++ [some (.own (((st.take i).filter pw).map .int)), some (.dat (.int o)), none]) tNext (A4 ++ [some (.own (((st.take (i + 1)).filter pw).map .int)), none, none]) True (dt (sD (wished a b st s))) := fun {c} h => by
    have e : (st.take (i + 1)).filter pw = (st.take i).filter pw := by rw [take_snoc ho, List.filter_append, List.filter_cons_of_neg (by rw [h]; exact Bool.false_ne_true), List.filter_nil, List.append_nil]
    rw [e]
    exact jm_weak (jm_next trivial) ⟨rfl, rfl, rfl, rfl, rfl, trivial⟩
  refine jm_if (jt_test (jd_notInI (jd_var rfl) (jd_var rfl))) (fun h1 => ?_) (fun h1 => no (c := true) (by show (!s.contains o && _) = false; rw [h1]; rfl))
  refine jm_seq (jm_asg (d := sD (withO s o)) (jd_call (S := sg_side_set_with C) (s, o) (show s.length < 60 by omega) (ja_cons (jd_var rfl) (ja_cons (jd_var rfl) ja_nil))) (noL_sD _)) fun _ => ?_
  refine jm_if (jt_and (jt_test (jd_inI (jd_var rfl) (jd_table T (c := a) (jd_var rfl) (jd_var rfl) hw))) fun _ => jt_test (jd_inI (jd_var rfl) (jd_table T (c := b) (jd_var rfl) (jd_var rfl) (by rw [two.bn]; exact hw)))) (fun h2 => ?_) (fun h2 => ?_)
  · have e : (st.take (i + 1)).filter pw = (st.take i).filter pw ++ [o] := by rw [take_snoc ho, List.filter_append, List.filter_cons_of_pos (by show (!s.contains o && _) = true; rw [h1, h2]; rfl), List.filter_nil]
    rw [e, List.map_append]
    exact jm_weak (jm_append (ds := ((st.take i).filter pw).map .int) rfl (jd_var rfl) (noL_int o) (by rw [List.length_map]; omega)) ⟨rfl, rfl, rfl, rfl, rfl, trivial⟩
  · have e : (st.take (i + 1)).filter pw = (st.take i).filter pw := by rw [take_snoc ho, List.filter_append, List.filter_cons_of_neg (by show ¬(!s.contains o && _) = true; rw [h1, h2]; exact Bool.false_ne_true), List.filter_nil, List.append_nil]
    rw [e]
    exact jm_weak (jm_next trivial) ⟨rfl, rfl, rfl, rfl, rfl, trivial⟩

abbrev N_press_behind : List Str := ["near", "far", "part", "offer", "whole", "kept", "other"]
theorem sc_press_behind : FnScope N_press_behind ["near", "far", "part", "offer"] (defScope s_press_behind) := ⟨rfl, rfl, rfl, by decide +kernel, rfl, by decide +kernel, by decide +kernel⟩
def sg_press_behind (C : Cn) : Sg (Ch × Ch × List Int × Int) := ⟨fun x => Two x.1 x.2.1 x.1.n ∧ IsSet x.1.n x.2.2.1 ∧ (0 ≤ x.2.2.2 ∧ x.2.2.2 < x.1.n), fun x => [cho C x.1, cho C x.2.1, dt (sD x.2.2.1), dt (.int x.2.2.2)], fun x => dt (sD (pressB x.1 x.2.1 x.2.2.1 x.2.2.2))⟩
def sp_press_behind (C : Cn) : Sp := (sg_press_behind C).sp
theorem ok_press_behind {P : Program} {w : World} {K : PySem.W.Frag} {mg : Str → Option Value} {base : Heap} {C : Cn} {f : Addr} {fd : FuncData} (F : FunD K "press_behind" "press_behind" (defArgs s_press_behind) (defBody s_press_behind) (defScope s_press_behind) [] [] f fd) (m : mg "press_behind" = some (.ref f)) (T : Top K mg C) (c_side_set_with : Cal P w K mg base 2 "side_set_with" (sp_side_set_with C) []) :
    Cal P w K mg base 3 "press_behind" (sp_press_behind C) [] := by
  refine cal_of F (fn_js (S := sg_press_behind C) (k := 2) F sc_press_behind (fun _ => rfl) fun cdv A outer s H E hr => ⟨_, PSs.nox ((pss_cons (ps_set (i := 4) sc_press_behind.nd rfl (Or.inl rfl) (pe_c c_side_set_with hr (by decide) (by rfl) (pa_cons (pv 2) (pa_cons (pv 3) pa_nil))))
    (pss_cons (ps_set (i := 5) sc_press_behind.nd rfl (Or.inr rfl) (pe_dget (hu_of hr) (e_fld (K := K) rfl (pv 1) rfl) (pv 4) (fun _ _ => rfl)))
    (pss_one (ps_ret (pe_callTy (c_tup (K := K) rfl) (by rfl) T.tuple_ boot_tuple (pa_cons (pe_lc (own := [("other", 6)]) rfl sc_press_behind.nd (i_seq (K := K) rfl (pe_dget (hu_of hr) (e_fld (K := K) rfl (pv 0) rfl) (pv 4) (fun _ _ => rfl))) (blkOk_by (own := [("other", 6)]) (N := N_press_behind) (sc := defScope s_press_behind) (by decide +kernel)) (fun _ _ _ _ _ => (pg_name (i := 6) sc_press_behind.nd rfl (Or.inl rfl))) (fun _ _ _ _ _ => pts_one (pt_cmpR (o_in (K := K) (w := w) rfl rfl (hu65 hr)) (pv 6) (pv 5) (by rfl))) (fun _ _ _ _ _ => (pv 6))) pa_nil))))))), fun x hd => ?_⟩) m (fun _ _ _ _ _ _ us hl => match us, hl with | [_, _, _, _], _ => rfl)
  obtain ⟨a, b, s, o⟩ := x
  have hd : Two a b a.n ∧ IsSet a.n s ∧ (0 ≤ o ∧ o < a.n) := hd
  obtain ⟨two, hs, hon⟩ := id hd
  have h6 := two.few
  have hls := len6 hs h6
  have hw : IsSet a.n (withO s o) := isSet_withO hs hon
  have hw2 : IsSet b.n (withO s o) := by rw [two.bn]; exact hw
  have hk := len6 (two.aok _ hw).1 h6
  exact ⟨[], False, js_seq (js_asg (jd_call (S := sg_side_set_with C) (s, o) (show s.length < 60 by omega) (ja_cons (jd_var rfl) (ja_cons (jd_var rfl) ja_nil)))) fun _ => js_seq (js_asg (jd_table T (c := b) (jd_var rfl) (jd_var rfl) hw2)) fun _ =>
    js_ret (jd_filter (s := a.f (withO s o)) (p := fun x => (b.f (withO s o)).contains x) (ji_ints (jd_table T (c := a) (jd_var rfl) (jd_var rfl) hw)) (fun x hx => jt_test (jd_inI (jd_var rfl) (jd_var rfl))) (fun x hx => jd_var rfl) (by omega)), fun z => z.elim⟩

theorem isSet_wished {a b : Ch} {n : Nat} {st s : List Int} (h : IsSet n st) : IsSet n (wished a b st s) := isSet_filter h _
theorem wished_in {a b : Ch} {st s : List Int} {o : Int} (h : o ∈ wished a b st s) : o ∈ st := (List.mem_filter.mp h).1
theorem isSet_pressB {a b : Ch} {s : List Int} {o : Int} (two : Two a b a.n) (hs : IsSet a.n s) (ho : 0 ≤ o ∧ o < (a.n : Int)) : IsSet a.n (pressB a b s o) := isSet_filter (two.aok _ (isSet_withO hs ho)).1 _
/-- a press, as data -/
def movD (x : Int × List Int) : PyData := .tuple [.int x.1, sD x.2]
theorem noL_movD (x : Int × List Int) : noL (movD x) = true := by
  unfold movD
  rw [noL_tuple, noLs_cons, noLs_cons, noL_int, noL_sD, noLs_nil]
  rfl

abbrev N_press_moves : List Str := ["near", "far", "standing", "part", "offer"]
theorem sc_press_moves : FnScope N_press_moves ["near", "far", "standing", "part"] (defScope s_press_moves) := ⟨rfl, rfl, rfl, by decide +kernel, rfl, by decide +kernel, by decide +kernel⟩
def sf_press_moves (C : Cn) : Sf (Ch × Ch × List Int × List Int) := ⟨fun x => Two x.1 x.2.1 x.1.n ∧ IsSet x.1.n x.2.2.1 ∧ IsSet x.1.n x.2.2.2, fun x => [cho C x.1, cho C x.2.1, dt (sD x.2.2.1), dt (sD x.2.2.2)], fun x => (movesOf x.1 x.2.1 x.2.2.1 x.2.2.2).map movD⟩
def sp_press_moves (C : Cn) : Sp := (sf_press_moves C).sp
theorem ok_press_moves {P : Program} {w : World} {K : PySem.W.Frag} {mg : Str → Option Value} {base : Heap} {C : Cn} {f : Addr} {fd : FuncData} (F : FunD K "press_moves" "press_moves" (defArgs s_press_moves) (defBody s_press_moves) (defScope s_press_moves) [] [] f fd) (m : mg "press_moves" = some (.ref f)) (T : Top K mg C) (c_press_behind : Cal P w K mg base 3 "press_behind" (sp_press_behind C) []) (c_wished_beside : Cal P w K mg base 3 "wished_beside" (sp_wished_beside C) []) :
    Cal P w K mg base 4 "press_moves" (sp_press_moves C) [] := by
  refine cal_of F (fn_jf (S := sf_press_moves C) (k := 3) F sc_press_moves (fun _ => rfl) fun cdv A outer s H E hr => ⟨_, PSs.nox ((pss_one (ps_ret (pe_lc (own := [("offer", 4)]) rfl sc_press_moves.nd (i_seq (K := K) rfl (pe_c c_wished_beside hr (by decide) (by rfl) (pa_cons (pv 0) (pa_cons (pv 1) (pa_cons (pv 2) (pa_cons (pv 3) pa_nil)))))) (blkOk_by (own := [("offer", 4)]) (N := N_press_moves) (sc := defScope s_press_moves) (by decide +kernel)) (fun _ _ _ _ _ => (pg_name (i := 4) sc_press_moves.nd rfl (Or.inl rfl))) (fun _ _ _ _ _ => pts_nil) (fun _ _ _ _ _ => (pe_tup (pa_cons (pv 4) (pa_cons (pe_c c_press_behind hr (by decide) (by rfl) (pa_cons (pv 0) (pa_cons (pv 1) (pa_cons (pv 3) (pa_cons (pv 4) pa_nil))))) pa_nil)))))))), fun x hd => ?_⟩) m (fun _ _ _ _ _ _ us hl => match us, hl with | [_, _, _, _], _ => rfl)
  obtain ⟨a, b, st, s⟩ := x
  have hd : Two a b a.n ∧ IsSet a.n st ∧ IsSet a.n s := hd
  obtain ⟨two, hst, hs⟩ := id hd
  have h6 := two.few
  have hl := len6 (isSet_wished (a := a) (b := b) (s := s) hst) h6
  refine Jf.eq (jf_lc (xs := wished a b st s) (bind := fun o Γ => Γ.set 4 (some (dt (.int o)))) (p := fun _ => true) (q := fun o => movD (o, pressB a b s o)) (ji_ints (jd_call (S := sg_wished_beside C) (a, b, st, s) hd (ja_cons (jd_var rfl) (ja_cons (jd_var rfl) (ja_cons (jd_var rfl) (ja_cons (jd_var rfl) ja_nil)))))) (tg_name 4) (fun o ho => jt_yes) (fun o ho _ => ?_) (by omega) (fun o ho _ => noL_movD _)) ?_
  · exact jd_tup (ds := [.int o, sD (pressB a b s o)]) (ja_cons (jd_var rfl) (ja_cons (jd_call (S := sg_press_behind C) (a, b, s, o) ⟨two, hs, hst.2 o (wished_in ho)⟩ (ja_cons (jd_var rfl) (ja_cons (jd_var rfl) (ja_cons (jd_var rfl) (ja_cons (jd_var rfl) ja_nil))))) ja_nil)) (by simp)
  · rw [List.filter_eq_self.mpr (fun _ _ => rfl)]
    show _ = (movesOf a b st s).map movD
    unfold movesOf
    rw [List.map_map]
    rfl

abbrev N_side_settled : List Str := ["near", "far", "standing", "part"]
theorem sc_side_settled : FnScope N_side_settled ["near", "far", "standing", "part"] (defScope s_side_settled) := ⟨rfl, rfl, rfl, by decide +kernel, rfl, by decide +kernel, by decide +kernel⟩
def sg_side_settled (C : Cn) : Sg (Ch × Ch × List Int × List Int) := ⟨fun x => Two x.1 x.2.1 x.1.n ∧ IsSet x.1.n x.2.2.1 ∧ IsSet x.1.n x.2.2.2, fun x => [cho C x.1, cho C x.2.1, dt (sD x.2.2.1), dt (sD x.2.2.2)], fun x => dt (.bool (settledB x.1 x.2.1 x.2.2.1 x.2.2.2))⟩
def sp_side_settled (C : Cn) : Sp := (sg_side_settled C).sp
theorem ok_side_settled {P : Program} {w : World} {K : PySem.W.Frag} {mg : Str → Option Value} {base : Heap} {C : Cn} {f : Addr} {fd : FuncData} (F : FunD K "side_settled" "side_settled" (defArgs s_side_settled) (defBody s_side_settled) (defScope s_side_settled) [] [] f fd) (m : mg "side_settled" = some (.ref f)) (T : Top K mg C) (c_agreed_by : Cal P w K mg base 1 "agreed_by" (sp_agreed_by C) []) (c_wished_beside : Cal P w K mg base 3 "wished_beside" (sp_wished_beside C) []) :
    Cal P w K mg base 4 "side_settled" (sp_side_settled C) [] := by
  refine cal_of F (fn_js (S := sg_side_settled C) (k := 3) F sc_side_settled (fun _ => rfl) fun cdv A outer s H E hr => ⟨_, PSs.nox ((pss_one (ps_ret (pe_and (pe_c c_agreed_by hr (by decide) (by rfl) (pa_cons (pv 0) (pa_cons (pv 1) (pa_cons (pv 3) pa_nil)))) (pe_one (pe_cmpR (o_eq (K := K) rfl hr.units) (pe_c c_wished_beside hr (by decide) (by rfl) (pa_cons (pv 0) (pa_cons (pv 1) (pa_cons (pv 2) (pa_cons (pv 3) pa_nil))))) (pe_tup pa_nil) (nomark _))))))), fun x hd => ?_⟩) m (fun _ _ _ _ _ _ us hl => match us, hl with | [_, _, _, _], _ => rfl)
  obtain ⟨a, b, st, s⟩ := x
  have hd : Two a b a.n ∧ IsSet a.n st ∧ IsSet a.n s := hd
  obtain ⟨two, hst, hs⟩ := id hd
  exact ⟨[], False, js_ret (jd_and (jd_call (S := sg_agreed_by C) (a, b, s) ⟨hs, by show IsSet b.n s; rw [two.bn]; exact hs⟩ (ja_cons (jd_var rfl) (ja_cons (jd_var rfl) (ja_cons (jd_var rfl) ja_nil)))) fun _ =>
    jd_eqSet (jd_call (S := sg_wished_beside C) (a, b, st, s) hd (ja_cons (jd_var rfl) (ja_cons (jd_var rfl) (ja_cons (jd_var rfl) (ja_cons (jd_var rfl) ja_nil))))) jd_nil), fun z => z.elim⟩

abbrev N_is_agreed : List Str := ["near", "far", "some"]
theorem sc_is_agreed : FnScope N_is_agreed ["near", "far", "some"] (defScope s_is_agreed) := ⟨rfl, rfl, rfl, by decide +kernel, rfl, by decide +kernel, by decide +kernel⟩
def sg_is_agreed (C : Cn) : Sg (Ch × Ch × List Int) := ⟨fun x => Dom2 x.1 x.2.1 x.2.2, fun x => [cho C x.1, cho C x.2.1, dt (sD x.2.2)], fun x => dt (.bool (agreedB x.1 x.2.1 x.2.2))⟩
def sp_is_agreed (C : Cn) : Sp := (sg_is_agreed C).sp
theorem ok_is_agreed {P : Program} {w : World} {K : PySem.W.Frag} {mg : Str → Option Value} {base : Heap} {C : Cn} {f : Addr} {fd : FuncData} (F : FunD K "is_agreed" "is_agreed" (defArgs s_is_agreed) (defBody s_is_agreed) (defScope s_is_agreed) [] [] f fd) (m : mg "is_agreed" = some (.ref f)) (T : Top K mg C) (c_side_check_standing : Cal P w K mg base 4 "side_check_standing" (sp_side_check_standing C) []) (c_agreed_by : Cal P w K mg base 1 "agreed_by" (sp_agreed_by C) []) :
    Cal P w K mg base 5 "is_agreed" (sp_is_agreed C) [] := by
  refine cal_of F (fn_js (S := sg_is_agreed C) (k := 4) F sc_is_agreed (fun _ => rfl) fun cdv A outer s H E hr => ⟨_, PSs.nox ((pss_cons (ps_expr (pe_c c_side_check_standing hr (by decide) (by rfl) (pa_cons (pv 0) (pa_cons (pv 1) (pa_cons (pv 2) pa_nil)))))
    (pss_one (ps_ret (pe_c c_agreed_by hr (by decide) (by rfl) (pa_cons (pv 0) (pa_cons (pv 1) (pa_cons (pv 2) pa_nil)))))))), fun x hd => ?_⟩) m (fun _ _ _ _ _ _ us hl => match us, hl with | [_, _, _], _ => rfl)
  obtain ⟨a, b, s⟩ := x
  have hd : Dom2 a b s := hd
  exact ⟨[], False, js_seq (js_drop (jd_call (S := sg_side_check_standing C) (a, b, s) hd (ja_cons (jd_var rfl) (ja_cons (jd_var rfl) (ja_cons (jd_var rfl) ja_nil))))) fun _ =>
    js_ret (jd_call (S := sg_agreed_by C) (a, b, s) ⟨hd.hst, by show IsSet b.n s; rw [hd.bn]; exact hd.hst⟩ (ja_cons (jd_var rfl) (ja_cons (jd_var rfl) (ja_cons (jd_var rfl) ja_nil)))), fun z => z.elim⟩

abbrev N_is_settled : List Str := ["near", "far", "standing", "part"]
theorem sc_is_settled : FnScope N_is_settled ["near", "far", "standing", "part"] (defScope s_is_settled) := ⟨rfl, rfl, rfl, by decide +kernel, rfl, by decide +kernel, by decide +kernel⟩
def sg_is_settled (C : Cn) : Sg (Ch × Ch × List Int × List Int) := ⟨fun x => Dom3 x.1 x.2.1 x.2.2.1 x.2.2.2, fun x => [cho C x.1, cho C x.2.1, dt (sD x.2.2.1), dt (sD x.2.2.2)], fun x => dt (.bool (settledB x.1 x.2.1 x.2.2.1 x.2.2.2))⟩
def sp_is_settled (C : Cn) : Sp := (sg_is_settled C).sp
theorem ok_is_settled {P : Program} {w : World} {K : PySem.W.Frag} {mg : Str → Option Value} {base : Heap} {C : Cn} {f : Addr} {fd : FuncData} (F : FunD K "is_settled" "is_settled" (defArgs s_is_settled) (defBody s_is_settled) (defScope s_is_settled) [] [] f fd) (m : mg "is_settled" = some (.ref f)) (T : Top K mg C) (c_side_check_part : Cal P w K mg base 5 "side_check_part" (sp_side_check_part C) []) (c_side_settled : Cal P w K mg base 4 "side_settled" (sp_side_settled C) []) :
    Cal P w K mg base 6 "is_settled" (sp_is_settled C) [] := by
  refine cal_of F (fn_js (S := sg_is_settled C) (k := 5) F sc_is_settled (fun _ => rfl) fun cdv A outer s H E hr => ⟨_, PSs.nox ((pss_cons (ps_expr (pe_c c_side_check_part hr (by decide) (by rfl) (pa_cons (pv 0) (pa_cons (pv 1) (pa_cons (pv 2) (pa_cons (pv 3) pa_nil))))))
    (pss_one (ps_ret (pe_c c_side_settled hr (by decide) (by rfl) (pa_cons (pv 0) (pa_cons (pv 1) (pa_cons (pv 2) (pa_cons (pv 3) pa_nil))))))))), fun x hd => ?_⟩) m (fun _ _ _ _ _ _ us hl => match us, hl with | [_, _, _, _], _ => rfl)
  obtain ⟨a, b, st, s⟩ := x
  have hd : Dom3 a b st s := hd
  exact ⟨[], False, js_seq (js_drop (jd_call (S := sg_side_check_part C) (a, b, st, s) hd (ja_cons (jd_var rfl) (ja_cons (jd_var rfl) (ja_cons (jd_var rfl) (ja_cons (jd_var rfl) ja_nil)))))) fun _ =>
    js_ret (jd_call (S := sg_side_settled C) (a, b, st, s) ⟨hd.two, hd.hst, hd.hpt⟩ (ja_cons (jd_var rfl) (ja_cons (jd_var rfl) (ja_cons (jd_var rfl) (ja_cons (jd_var rfl) ja_nil))))), fun z => z.elim⟩

/-- .. that both have agreed to -/
structure Dom4 (a b : Ch) (st p : List Int) : Prop extends Dom3 a b st p where
  ag : agreedB a b p = true
abbrev N_press_check : List Str := ["near", "far", "standing", "part"]
theorem sc_press_check : FnScope N_press_check ["near", "far", "standing", "part"] (defScope s_press_check) := ⟨rfl, rfl, rfl, by decide +kernel, rfl, by decide +kernel, by decide +kernel⟩
def sg_press_check (C : Cn) : Sg (Ch × Ch × List Int × List Int) := ⟨fun x => Dom4 x.1 x.2.1 x.2.2.1 x.2.2.2, fun x => [cho C x.1, cho C x.2.1, dt (sD x.2.2.1), dt (sD x.2.2.2)], fun x => dt .none⟩
def sp_press_check (C : Cn) : Sp := (sg_press_check C).sp
theorem ok_press_check {P : Program} {w : World} {K : PySem.W.Frag} {mg : Str → Option Value} {base : Heap} {C : Cn} {f : Addr} {fd : FuncData} (F : FunD K "press_check" "press_check" (defArgs s_press_check) (defBody s_press_check) (defScope s_press_check) [] [] f fd) (m : mg "press_check" = some (.ref f)) (T : Top K mg C) (c_side_check_part : Cal P w K mg base 5 "side_check_part" (sp_side_check_part C) []) (c_agreed_by : Cal P w K mg base 1 "agreed_by" (sp_agreed_by C) []) :
    Cal P w K mg base 6 "press_check" (sp_press_check C) [] := by
  refine cal_of F (fn_js (S := sg_press_check C) (k := 5) F sc_press_check (fun _ => rfl) fun cdv A outer s H E hr => ⟨_, PSs.nox ((pss_cons (ps_expr (pe_c c_side_check_part hr (by decide) (by rfl) (pa_cons (pv 0) (pa_cons (pv 1) (pa_cons (pv 2) (pa_cons (pv 3) pa_nil))))))
    (pss_one (ps_if (pt_not (pt_val (pe_c c_agreed_by hr (by decide) (by rfl) (pa_cons (pv 0) (pa_cons (pv 1) (pa_cons (pv 3) pa_nil)))))) (pss_one ps_never) pss_nil)))), fun x hd => ?_⟩) m (fun _ _ _ _ _ _ us hl => match us, hl with | [_, _, _, _], _ => rfl)
  obtain ⟨a, b, st, s⟩ := x
  have hd : Dom4 a b st s := hd
  refine ⟨_, True, js_seq (js_drop (jd_call (S := sg_side_check_part C) (a, b, st, s) hd.toDom3 (ja_cons (jd_var rfl) (ja_cons (jd_var rfl) (ja_cons (jd_var rfl) (ja_cons (jd_var rfl) ja_nil)))))) fun _ =>
    js_guard (Jt.eq (jt_not (jt_B (jd_call (S := sg_agreed_by C) (a, b, s) ⟨hd.hpt, by show IsSet b.n s; rw [hd.bn]; exact hd.hpt⟩ (ja_cons (jd_var rfl) (ja_cons (jd_var rfl) (ja_cons (jd_var rfl) ja_nil)))))) ?_), fun _ H => dt_non⟩
  show (!agreedB a b s) = false
  rw [hd.ag]
  rfl
end Ost
set_option Elab.async false
set_option linter.all false
set_option maxRecDepth 100000
set_option maxHeartbeats 4000000
/-! M1: all sets of n offers, as they are listed; the parts of a set. -/
namespace Ost
/-- the next that may be put behind a row -/
def loS (row : List Int) : Int := if row = [] then 0 else row.getLastD 0 + 1
def rowsS (n : Nat) : Nat → List (List Int)
  | 0 => [[]]
  | k + 1 => (rowsS n k).flatMap fun row => (rgI (loS row) ((n : Int) - loS row).toNat).map fun o => row ++ [o]
def allTo (n : Nat) : Nat → List (List Int)
  | 0 => [[]]
  | k + 1 => allTo n k ++ rowsS n (k + 1)
def allS (n : Nat) : List (List Int) := allTo n n
theorem mem_rgI {lo x : Int} {n : Nat} : x ∈ rgI lo n ↔ lo ≤ x ∧ x < lo + n := by
  unfold rgI
  rw [List.mem_map]
  constructor
  · rintro ⟨i, h, rfl⟩
    have := List.mem_range.mp h
    omega
  · rintro ⟨h1, h2⟩
    exact ⟨(x - lo).toNat, List.mem_range.mpr (by omega), by omega⟩
theorem loS_snoc (s : List Int) (o : Int) : loS (s ++ [o]) = o + 1 := by
  unfold loS
  rw [if_neg (by simp), List.getLastD_concat]
theorem asc_snoc {s : List Int} {o : Int} : (s ++ [o]).Pairwise (· < ·) ↔ s.Pairwise (· < ·) ∧ ∀ x ∈ s, x < o := by
  rw [List.pairwise_append]
  constructor
  · rintro ⟨h1, _, h3⟩
    exact ⟨h1, fun x hx => h3 x hx o (by simp)⟩
  · rintro ⟨h1, h2⟩
    exact ⟨h1, by simp, fun x hx y hy => by rw [List.mem_singleton.mp hy]; exact h2 x hx⟩
theorem loS_le {n : Nat} {s : List Int} (h : IsSet n s) : 0 ≤ loS s ∧ loS s ≤ n ∧ ∀ x ∈ s, x < loS s := by
  rcases List.eq_nil_or_concat s with rfl | ⟨t, o, rfl⟩
  · refine ⟨by decide, by show (0 : Int) ≤ n; omega, fun x hx => by cases hx⟩
  · rw [List.concat_eq_append] at h ⊢
    have := h.2 o (by simp)
    rw [loS_snoc]
    refine ⟨by omega, by omega, fun x hx => ?_⟩
    rcases List.mem_append.mp hx with hx | hx
    · have := (asc_snoc.mp h.1).2 x hx; omega
    · rw [List.mem_singleton.mp hx]; omega
theorem loS_min {n : Nat} {s : List Int} {o : Int} (h : IsSet n (s ++ [o])) : loS s ≤ o := by
  rcases List.eq_nil_or_concat s with rfl | ⟨t, p, rfl⟩
  · have := h.2 o (by simp)
    exact this.1
  · rw [List.concat_eq_append] at h ⊢
    rw [loS_snoc]
    have := (asc_snoc.mp h.1).2 p (by simp)
    omega
theorem mem_rowsS {n : Nat} : ∀ {k : Nat} {s : List Int}, s ∈ rowsS n k ↔ IsSet n s ∧ s.length = k
  | 0, s => by
    unfold rowsS
    rw [List.mem_singleton]
    constructor
    · rintro rfl; exact ⟨isSet_nil n, rfl⟩
    · rintro ⟨_, h⟩; exact List.length_eq_zero_iff.mp h
  | k + 1, s => by
    unfold rowsS
    rw [List.mem_flatMap]
    constructor
    · rintro ⟨row, hr, h⟩
      obtain ⟨o, ho, rfl⟩ := List.mem_map.mp h
      obtain ⟨h1, h2⟩ := mem_rowsS.mp hr
      obtain ⟨a, b, c⟩ := loS_le h1
      rw [mem_rgI] at ho
      refine ⟨⟨asc_snoc.mpr ⟨h1.1, fun x hx => by have := c x hx; omega⟩, fun x hx => ?_⟩, by rw [List.length_append, h2]; rfl⟩
      rcases List.mem_append.mp hx with hx | hx
      · exact h1.2 x hx
      · rw [List.mem_singleton.mp hx]; omega
    · rintro ⟨h, hl⟩
      rcases List.eq_nil_or_concat s with rfl | ⟨t, o, rfl⟩
      · cases hl
      · rw [List.concat_eq_append] at h hl ⊢
        have ht : IsSet n t := ⟨(asc_snoc.mp h.1).1, fun x hx => h.2 x (List.mem_append_left _ hx)⟩
        have ho := h.2 o (by simp)
        refine ⟨t, mem_rowsS.mpr ⟨ht, by rw [List.length_append] at hl; simpa using hl⟩, List.mem_map.mpr ⟨o, ?_, rfl⟩⟩
        rw [mem_rgI]
        have := loS_min h
        omega
theorem mem_allTo {n : Nat} : ∀ {k : Nat} {s : List Int}, s ∈ allTo n k ↔ IsSet n s ∧ s.length ≤ k
  | 0, s => by
    show s ∈ [[]] ↔ _
    rw [List.mem_singleton]
    constructor
    · rintro rfl; exact ⟨isSet_nil n, Nat.le_refl _⟩
    · rintro ⟨_, h⟩; exact List.length_eq_zero_iff.mp (by omega)
  | k + 1, s => by
    show s ∈ allTo n k ++ rowsS n (k + 1) ↔ _
    rw [List.mem_append, mem_allTo, mem_rowsS]
    constructor
    · rintro (⟨h, l⟩ | ⟨h, l⟩)
      · exact ⟨h, by omega⟩
      · exact ⟨h, by omega⟩
    · rintro ⟨h, l⟩
      by_cases e : s.length = k + 1
      · exact .inr ⟨h, e⟩
      · exact .inl ⟨h, by omega⟩
theorem mem_allS {n : Nat} {s : List Int} : s ∈ allS n ↔ IsSet n s := by
  unfold allS
  rw [mem_allTo]
  exact ⟨fun h => h.1, fun h => ⟨h, isSet_len h⟩⟩
theorem allS_few : ∀ n : Fin 7, (allS n).length = 2 ^ n.val ∧ (allS n).Nodup ∧ ∀ k : Fin 7, (rowsS n k).length ≤ 64 ∧ (allTo n k).length ≤ 64 := by decide +kernel
theorem allS_len {n : Nat} (h : n ≤ 6) : (allS n).length ≤ 64 := by
  have := (allS_few ⟨n, by omega⟩).1
  have h2 : 2 ^ n ≤ 2 ^ 6 := Nat.pow_le_pow_right (by decide) h
  have h3 : (allS n).length = 2 ^ n := this
  omega
theorem allS_nodup {n : Nat} (h : n ≤ 6) : (allS n).Nodup := (allS_few ⟨n, by omega⟩).2.1
theorem rowsS_len {n k : Nat} (h : n ≤ 6) (hk : k ≤ 6) : (rowsS n k).length ≤ 64 := ((allS_few ⟨n, by omega⟩).2.2 ⟨k, by omega⟩).1
theorem allTo_len {n k : Nat} (h : n ≤ 6) (hk : k ≤ 6) : (allTo n k).length ≤ 64 := ((allS_few ⟨n, by omega⟩).2.2 ⟨k, by omega⟩).2

/-! ### a list of distinct things within another is no longer -/
theorem nodup_le {α : Type} [DecidableEq α] : ∀ {xs ys : List α}, xs.Nodup → (∀ x ∈ xs, x ∈ ys) → xs.length ≤ ys.length
  | [], _, _, _ => Nat.zero_le _
  | x :: xs, ys, h, hs => by
    obtain ⟨h1, h2⟩ := List.nodup_cons.mp h
    have hx : x ∈ ys := hs x (List.mem_cons_self ..)
    have := nodup_le (ys := ys.erase x) h2 fun y hy => (List.mem_erase_of_ne (fun (e : y = x) => h1 (e ▸ hy))).mpr (hs y (List.mem_cons_of_mem _ hy))
    rw [List.length_erase_of_mem hx] at this
    have hp := List.length_pos_of_mem hx
    rw [List.length_cons]
    omega
theorem sets_few {n : Nat} (h : n ≤ 6) {ks : List (List Int)} (nd : ks.Nodup) (hk : ∀ s ∈ ks, IsSet n s) : ks.length ≤ 64 := Nat.le_trans (nodup_le nd fun s hs => mem_allS.mpr (hk s hs)) (allS_len h)

/-! ### the parts of a set, as they are listed -/
def pickI (st is : List Int) : List Int := is.map fun i => st.getD i.toNat 0
def partsL (st : List Int) : List (List Int) := (allS st.length).map (pickI st)
theorem idx_of {st : List Int} {x : Int} (h : x ∈ st) : ∃ i, i < st.length ∧ st.getD i 0 = x := by
  obtain ⟨i, hi, e⟩ := List.getElem_of_mem h
  exact ⟨i, hi, by rw [List.getD_eq_getElem?_getD, List.getElem?_eq_getElem hi]; exact e⟩
theorem mem_partsL {st s : List Int} (h : st.Pairwise (· < ·)) : s ∈ partsL st ↔ s.Pairwise (· < ·) ∧ ∀ x ∈ s, x ∈ st := by
  have mono : ∀ i j : Nat, i < j → j < st.length → st.getD i 0 < st.getD j 0 := fun i j hij hj => by
    rw [List.getD_eq_getElem?_getD, List.getD_eq_getElem?_getD, List.getElem?_eq_getElem hj, List.getElem?_eq_getElem (by omega)]
    exact List.pairwise_iff_getElem.mp h i j (by omega) hj hij
  unfold partsL
  rw [List.mem_map]
  constructor
  · rintro ⟨is, hi, rfl⟩
    have hi := mem_allS.mp hi
    refine ⟨?_, fun x hx => ?_⟩
    · unfold pickI
      rw [List.pairwise_map]
      refine hi.1.imp_of_mem fun {a b} ha hb hab => ?_
      have := hi.2 a ha
      have := hi.2 b hb
      exact mono _ _ (by omega) (by omega)
    · obtain ⟨i, hm, rfl⟩ := List.mem_map.mp hx
      have := hi.2 i hm
      rw [List.getD_eq_getElem?_getD, List.getElem?_eq_getElem (by omega)]
      exact List.getElem_mem _
  · rintro ⟨hs, hm⟩
    -- the places of s
    let pl : Int → Int := fun x => (st.idxOf x : Int)
    have hpl : ∀ x ∈ st, (pl x).toNat < st.length ∧ st.getD (pl x).toNat 0 = x := fun x hx => by
      have h1 : st.idxOf x < st.length := List.idxOf_lt_length_of_mem hx
      refine ⟨h1, ?_⟩
      show st.getD (st.idxOf x) 0 = x
      rw [List.getD_eq_getElem?_getD, List.getElem?_eq_getElem h1]
      exact List.getElem_idxOf h1
    have e : pickI st (s.map pl) = s := by
      unfold pickI
      rw [List.map_map]
      have : s.map ((fun i : Int => st.getD i.toNat 0) ∘ pl) = s.map id := List.map_congr_left fun x hx => (hpl x (hm x hx)).2
      rw [this, List.map_id]
    refine ⟨s.map pl, mem_allS.mpr ⟨?_, fun i hi => ?_⟩, e⟩
    · rw [List.pairwise_map]
      refine hs.imp_of_mem fun {a b} ha hb hab => ?_
      obtain ⟨h1, h2⟩ := hpl a (hm a ha)
      obtain ⟨h3, h4⟩ := hpl b (hm b hb)
      rcases Int.lt_trichotomy (pl a) (pl b) with l | l | l
      · exact l
      · rw [l] at h2; rw [h2] at h4; omega
      · have := mono (pl b).toNat (pl a).toNat (by have : (0 : Int) ≤ pl b := Int.natCast_nonneg _; omega) h1
        rw [h2, h4] at this
        omega
    · obtain ⟨x, hx, rfl⟩ := List.mem_map.mp hi
      have := (hpl x (hm x hx)).1
      have : (0 : Int) ≤ pl x := Int.natCast_nonneg _
      omega
def settledL (a b : Ch) (st : List Int) : List (List Int) := (partsL st).filter (settledB a b st)
theorem mem_settledL {a b : Ch} {st s : List Int} (h : st.Pairwise (· < ·)) : s ∈ settledL a b st ↔ (s.Pairwise (· < ·) ∧ ∀ x ∈ s, x ∈ st) ∧ settledB a b st s = true := by
  unfold settledL
  rw [List.mem_filter, mem_partsL h]
theorem partsL_len {st : List Int} (h : st.length ≤ 6) : (partsL st).length ≤ 64 := by
  unfold partsL
  rw [List.length_map]
  exact allS_len h
end Ost
set_option Elab.async false
set_option linter.all false
set_option maxRecDepth 100000
set_option maxHeartbeats 4000000
/-! D4: all sets, the parts of a set, the settled among them. -/
namespace Ost
open PySem PySem.Spec PyProof.Rows L2
open C8 (Cal pe_c Mak pe_mk Met pe_gc)
/-- a list of sets -/
def setsD (L : List (List Int)) : PyData := .tuple (L.map sD)
theorem noLs_sets (L : List (List Int)) : noLs (L.map sD) = true := noLs_of fun d hd => by obtain ⟨s, _, rfl⟩ := List.mem_map.mp hd; exact noL_sD s
theorem atI_neg1 {α : Type} {xs : List α} {x : α} (h : xs.getLast? = some x) : atI xs (-1) = some x := by
  rcases List.eq_nil_or_concat xs with rfl | ⟨t, o, rfl⟩
  · simp at h
  · rw [List.concat_eq_append] at h ⊢
    rw [List.getLast?_append] at h
    have h : o = x := by simpa using h
    subst h
    refine ix_to (j := t.length) ?_ (by simp)
    unfold ixN
    rw [List.length_append]
    rw [if_neg (by omega), if_pos (by simp; omega)]
    congr 1
    simp
    omega

abbrev N_all_sets : List Str := ["offers", "found", "rows", "size", "row", "one"]
theorem sc_all_sets : FnScope N_all_sets ["offers"] (defScope s_all_sets) := ⟨rfl, rfl, rfl, by decide +kernel, rfl, by decide +kernel, by decide +kernel⟩
def sg_all_sets (C : Cn) : Sg Nat := ⟨fun n => n ≤ 6, fun n => [dt (.int n)], fun n => dt (setsD (allS n))⟩
def sp_all_sets (C : Cn) : Sp := (sg_all_sets C).sp
theorem ok_all_sets {P : Program} {w : World} {K : PySem.W.Frag} {mg : Str → Option Value} {base : Heap} {C : Cn} {f : Addr} {fd : FuncData} (F : FunD K "all_sets" "all_sets" (defArgs s_all_sets) (defBody s_all_sets) (defScope s_all_sets) [] [] f fd) (m : mg "all_sets" = some (.ref f)) (T : Top K mg C) :
    Cal P w K mg base 1 "all_sets" (sp_all_sets C) [] := by
  refine cal_of F (fn_jm (S := sg_all_sets C) (k := 0) F sc_all_sets (fun _ => rfl) fun cdv A outer s H E hr => ⟨_, PSs.nox ((pss_cons (ps_par (i := 1) (j := 2) (by rfl) sc_all_sets.nd rfl rfl (by decide) rfl rfl (pa_cons (pe_lst (pa_cons (pe_tup pa_nil) pa_nil)) (pa_cons (pe_lst (pa_cons (pe_tup pa_nil) pa_nil)) pa_nil)) (by rfl))
    (pss_cons (ps_for PassesOwn.never rfl (pi_range1 (by rfl) T.range_ (pa_cons (pv 0) pa_nil)) (pg_name (i := 3) sc_all_sets.nd rfl (Or.inl rfl)) (pss_cons (ps_setLc2 (i := 2) (own := [("row", 4), ("one", 5)]) (vs1 := [5]) rfl sc_all_sets.nd rfl rfl (sw_true rfl rfl rfl (by decide +kernel)) (i_seq (K := K) rfl (pv 2)) (blkOk_by (own := [("row", 4), ("one", 5)]) (N := N_all_sets) (sc := defScope s_all_sets) (by decide +kernel)) (by decide) (fun _ _ _ _ _ => (pg_name (i := 4) sc_all_sets.nd rfl (Or.inl rfl))) (fun _ _ _ _ _ => pts_nil) (fun _ _ _ _ _ => (pi_range2 (by rfl) T.range_ (pa_cons (pe_ifExp (pt_cmpR (o_ne (K := K) rfl hr.units) (pv 4) (pe_tup pa_nil) (nomark _)) (pe_op (o_add (K := K) rfl) (pe_ix (x_ix (K := K) rfl) (pv 4) (pe_un un_neg pe_int) (fun _ _ => rfl)) pe_int) pe_int) (pa_cons (pv 0) pa_nil)))) (fun _ _ _ _ _ => (pg_name (i := 5) sc_all_sets.nd rfl (Or.inl rfl))) (fun _ _ _ _ _ => pts_nil) (fun _ _ _ _ _ => (pe_op (o_add (K := K) rfl) (pv 4) (pe_tup (pa_cons (pv 5) pa_nil)))))
    (pss_one (ps_expr (pe_bm PySem.F.plainAttrs_list PySem.F.slot_list_extend PySem.F.type_list_extend mt_extend (pv 1) (pa_cons (pv 2) pa_nil))))))
    (pss_one (ps_ret (pe_callTy (c_tup (K := K) rfl) (by rfl) T.tuple_ boot_tuple (pa_cons (pv 1) pa_nil))))))), fun x hd => ?_⟩) m (fun _ _ _ _ _ _ us hl => match us, hl with | [_], _ => rfl)
  have n6 : x ≤ 6 := hd
  have ef : ∀ k, ((rowsS x k).flatMap fun row => (rgI (loS row) ((x : Int) - loS row).toNat).map fun o => sD (row ++ [o])) = (rowsS x (k + 1)).map sD := fun k => by
    show _ = ((rowsS x k).flatMap fun row => (rgI (loS row) ((x : Int) - loS row).toNat).map fun o => row ++ [o]).map sD
    rw [List.map_flatMap]
    congr 1
    funext row
    rw [List.map_map]
    rfl
  refine ⟨[], False, jm_seq (jm_par2 (mv_own (jf_lst (ds := [sD []]) (ja_cons jd_nil ja_nil) (by simp)) (noLs_sets [[]])) (mv_own (jf_lst (ds := [sD []]) (ja_cons jd_nil ja_nil) (by simp)) (noLs_sets [[]]))) fun _ =>
    jm_seq (jm_forR (hi := (x : Int)) (bd := fun o Γ => Γ.set 3 (some (.dat (.int o)))) (Γs := fun i => [some (.arg (dt (.int x))), some (.own ((allTo x i).map sD)), some (.own ((rowsS x i).map sD)), none, none, none]) (C := fun _ => True) (ja_cons (jd_var rfl) ja_nil) (by omega) (by omega) (tm_name 3) trivial fun i hi _ => ?_) fun _ =>
    jm_ret (jd_tupOf ((jd_var rfl : Jd _ _ (dt (.list ((allTo x (x : Int).toNat).map sD)))).eq (by rw [Int.toNat_natCast]; rfl))), fun z => z.elim⟩
  refine jm_seq (jm_new (ds := (rowsS x (i + 1)).map sD) (Jf.eq (jf_lc2 (K := K) (xs := rowsS x i) (Y := sD) (j0 := 4) (j1 := 5) (lo := loS) (hi := (x : Int)) (q := fun a b => sD (a ++ [b])) (jd_var rfl) ⟨by decide, by decide⟩ (fun row hr => ?_) (fun row hr => ?_) (by omega) (fun row hr o ho => ?_) (by rw [ef, List.length_map]; have := rowsS_len n6 (show i + 1 ≤ 6 by omega); omega) (fun _ _ => noL_sD _) (fun _ => noL_sD _)) (ef i)) (noLs_sets _)) fun _ => ?_
  · refine ja_cons (jd_if (jt_test (jd_neSet (jd_var rfl) jd_nil)) (fun h => ?_) (fun h => ?_)) (ja_cons (jd_var rfl) ja_nil)
    · have hne : row ≠ [] := fun z => by rw [z] at h; cases h
      refine (jd_addI (jd_ixT (ds := row.map .int) (d := .int (row.getLastD 0)) (jd_var rfl) (jd_neg jd_int) (atI_map (atI_neg1 ?_))) jd_int).eq ?_
      · rw [List.getLastD_eq_getLast?]
        cases e : row.getLast? with
        | none => exact absurd (List.getLast?_eq_none_iff.mp e) hne
        | some z => rfl
      · unfold loS
        rw [if_neg hne]
    · refine jd_int.eq ?_
      have : row = [] := by simpa using h
      subst this
      rfl
  · have := loS_le (mem_rowsS.mp hr).1
    omega
  · have hl : row.length = i := (mem_rowsS.mp hr).2
    refine (jd_cat (ds := row.map .int) (es := [.int o]) (jd_var rfl) (jd_one (jd_var rfl)) (by rw [List.length_map]; show row.length + 1 ≤ 1000; omega)).eq ?_
    show PyData.tuple _ = PyData.tuple _
    rw [List.map_append]
    rfl
  · refine jm_weak (jm_extend (ds := (allTo x i).map sD) (es := (rowsS x (i + 1)).map sD) rfl (jd_var rfl) (noLs_sets _) (by rw [List.length_map, List.length_map]; have := rowsS_len n6 (show i + 1 ≤ 6 by omega); have := allTo_len n6 (show i ≤ 6 by omega); omega)) ⟨rfl, ?_, rfl, trivial⟩
    show some (MT.own ((allTo x i).map sD ++ (rowsS x (i + 1)).map sD)) = some (MT.own ((allTo x i ++ rowsS x (i + 1)).map sD))
    rw [List.map_append]

/-- subsets_of: a new list -/
abbrev N_subsets_of : List Str := ["some", "place", "places"]
theorem sc_subsets_of : FnScope N_subsets_of ["some"] (defScope s_subsets_of) := ⟨rfl, rfl, rfl, by decide +kernel, rfl, by decide +kernel, by decide +kernel⟩
def sf_subsets_of (C : Cn) : Sf (List Int) := ⟨fun s => s.length ≤ 6, fun s => [dt (sD s)], fun s => (partsL s).map sD⟩
def sp_subsets_of (C : Cn) : Sp := (sf_subsets_of C).sp
theorem ok_subsets_of {P : Program} {w : World} {K : PySem.W.Frag} {mg : Str → Option Value} {base : Heap} {C : Cn} {f : Addr} {fd : FuncData} (F : FunD K "subsets_of" "subsets_of" (defArgs s_subsets_of) (defBody s_subsets_of) (defScope s_subsets_of) [] [] f fd) (m : mg "subsets_of" = some (.ref f)) (T : Top K mg C) (c_all_sets : Cal P w K mg base 1 "all_sets" (sp_all_sets C) []) :
    Cal P w K mg base 2 "subsets_of" (sp_subsets_of C) [] := by
  refine cal_of F (fn_jf (S := sf_subsets_of C) (k := 1) F sc_subsets_of (fun _ => rfl) fun cdv A outer s H E hr => ⟨_, PSs.nox ((pss_one (ps_ret (pe_lc (own := [("places", 2)]) rfl sc_subsets_of.nd (i_seq (K := K) rfl (pe_c c_all_sets hr (by decide) (by rfl) (pa_cons (pe_callB (c_len (K := K) rfl) (by rfl) T.len_ boot_len (pa_cons (pv 0) pa_nil)) pa_nil))) (blkOk_by (own := [("places", 2)]) (N := N_subsets_of) (sc := defScope s_subsets_of) (by decide +kernel)) (fun _ _ _ _ _ => (pg_name (i := 2) sc_subsets_of.nd rfl (Or.inl rfl))) (fun _ _ _ _ _ => pts_nil) (fun _ _ _ _ _ => (pe_callTy (c_tup (K := K) rfl) (by rfl) T.tuple_ boot_tuple (pa_cons (pe_lc (own := [("place", 1)]) rfl sc_subsets_of.nd (i_seq (K := K) rfl (pv 2)) (blkOk_by (own := [("place", 1)]) (N := N_subsets_of) (by kernel_rfl)) (fun _ _ _ _ _ => (pg_name (i := 1) sc_subsets_of.nd rfl (Or.inl rfl))) (fun _ _ _ _ _ => pts_nil) (fun _ _ _ _ _ => (pe_ix (x_ix (K := K) rfl) (pv 0) (pv 1) (fun _ _ => rfl)))) pa_nil))))))), fun x hd => ?_⟩) m (fun _ _ _ _ _ _ us hl => match us, hl with | [_], _ => rfl)
  have hl : x.length ≤ 6 := hd
  refine Jf.eq (jf_lc (xs := allS x.length) (bind := fun s Γ => Γ.set 2 (some (dt (sD s)))) (p := fun _ => true) (q := fun is => sD (pickI x is)) (ji_tup (D := sD) (jd_call (S := sg_all_sets C) x.length hl (ja_cons (jd_lenS (jd_var rfl)) ja_nil))) (tg_name 2) (fun o ho => jt_yes) (fun is hi _ => ?_) (by have := allS_len hl; omega) (fun o ho _ => noL_sD _)) ?_
  · have hs := mem_allS.mp hi
    have h6 := len6 hs hl
    refine jd_tupOf (jd_of_jf (Jf.eq (jf_lc (xs := is) (bind := fun o Γ => Γ.set 1 (some (dt (.int o)))) (p := fun _ => true) (q := fun i => .int (x.getD i.toNat 0)) (ji_ints (jd_var rfl)) (tg_name 1) (fun o ho => jt_yes) (fun i hi' _ => ?_) (by omega) (fun o ho _ => noL_int _)) ?_))
    · have hb := hs.2 i hi'
      refine jd_ixT (ds := x.map .int) (jd_var rfl) (jd_var rfl) (atI_map (ix_to (j := i.toNat) ?_ ?_))
      · unfold ixN
        rw [if_pos hb.1, if_pos hb.2]
      · rw [List.getD_eq_getElem?_getD, List.getElem?_eq_getElem (by omega)]
        rfl
    · rw [List.filter_eq_self.mpr (fun _ _ => rfl)]
      unfold pickI
      rw [List.map_map]
      rfl
  · rw [List.filter_eq_self.mpr (fun _ _ => rfl)]
    show _ = (partsL x).map sD
    unfold partsL
    rw [List.map_map]
    rfl

abbrev N_settled_among : List Str := ["near", "far", "standing", "part"]
theorem sc_settled_among : FnScope N_settled_among ["near", "far", "standing"] (defScope s_settled_among) := ⟨rfl, rfl, rfl, by decide +kernel, rfl, by decide +kernel, by decide +kernel⟩
def sg_settled_among (C : Cn) : Sg (Ch × Ch × List Int) := ⟨fun x => Dom2 x.1 x.2.1 x.2.2, fun x => [cho C x.1, cho C x.2.1, dt (sD x.2.2)], fun x => dt (setsD (settledL x.1 x.2.1 x.2.2))⟩
def sp_settled_among (C : Cn) : Sp := (sg_settled_among C).sp
theorem ok_settled_among {P : Program} {w : World} {K : PySem.W.Frag} {mg : Str → Option Value} {base : Heap} {C : Cn} {f : Addr} {fd : FuncData} (F : FunD K "settled_among" "settled_among" (defArgs s_settled_among) (defBody s_settled_among) (defScope s_settled_among) [] [] f fd) (m : mg "settled_among" = some (.ref f)) (T : Top K mg C) (c_subsets_of : Cal P w K mg base 2 "subsets_of" (sp_subsets_of C) []) (c_side_settled : Cal P w K mg base 4 "side_settled" (sp_side_settled C) []) :
    Cal P w K mg base 5 "settled_among" (sp_settled_among C) [] := by
  refine cal_of F (fn_js (S := sg_settled_among C) (k := 4) F sc_settled_among (fun _ => rfl) fun cdv A outer s H E hr => ⟨_, PSs.nox ((pss_one (ps_ret (pe_callTy (c_tup (K := K) rfl) (by rfl) T.tuple_ boot_tuple (pa_cons (pe_lc (own := [("part", 3)]) rfl sc_settled_among.nd (i_seq (K := K) rfl (pe_c c_subsets_of hr (by decide) (by rfl) (pa_cons (pv 2) pa_nil))) (blkOk_by (own := [("part", 3)]) (N := N_settled_among) (sc := defScope s_settled_among) (by decide +kernel)) (fun _ _ _ _ _ => (pg_name (i := 3) sc_settled_among.nd rfl (Or.inl rfl))) (fun _ _ _ _ _ => pts_one (pt_val (pe_c c_side_settled hr (by decide) (by rfl) (pa_cons (pv 0) (pa_cons (pv 1) (pa_cons (pv 2) (pa_cons (pv 3) pa_nil))))))) (fun _ _ _ _ _ => (pv 3))) pa_nil))))), fun x hd => ?_⟩) m (fun _ _ _ _ _ _ us hl => match us, hl with | [_, _, _], _ => rfl)
  obtain ⟨a, b, st⟩ := x
  have hd : Dom2 a b st := hd
  have hl := len6 hd.hst hd.n6
  refine ⟨[], False, js_ret (jd_tupOf (jd_of_jf (jf_lc (xs := partsL st) (bind := fun s Γ => Γ.set 3 (some (dt (sD s)))) (p := settledB a b st) (q := sD) (ji_lst (D := sD) (jd_of_jf (jf_call (S := sf_subsets_of C) st hl (ja_cons (jd_var rfl) ja_nil)))) (tg_name 3) (fun s hs => jt_B (jd_call (S := sg_side_settled C) (a, b, st, s) ⟨hd.two, hd.hst, ?_⟩ (ja_cons (jd_var rfl) (ja_cons (jd_var rfl) (ja_cons (jd_var rfl) (ja_cons (jd_var rfl) ja_nil)))))) (fun s hs _ => jd_var rfl) (by have := partsL_len hl; omega) (fun s _ _ => noL_sD s)))), fun z => z.elim⟩
  obtain ⟨h1, h2⟩ := (mem_partsL hd.hst.1).mp hs
  exact isSet_sub hd.hst h1 h2

abbrev N_settled_sets : List Str := ["near", "far", "standing"]
theorem sc_settled_sets : FnScope N_settled_sets ["near", "far", "standing"] (defScope s_settled_sets) := ⟨rfl, rfl, rfl, by decide +kernel, rfl, by decide +kernel, by decide +kernel⟩
def sg_settled_sets (C : Cn) : Sg (Ch × Ch × List Int) := ⟨fun x => Dom2 x.1 x.2.1 x.2.2, fun x => [cho C x.1, cho C x.2.1, dt (sD x.2.2)], fun x => dt (setsD (settledL x.1 x.2.1 x.2.2))⟩
def sp_settled_sets (C : Cn) : Sp := (sg_settled_sets C).sp
theorem ok_settled_sets {P : Program} {w : World} {K : PySem.W.Frag} {mg : Str → Option Value} {base : Heap} {C : Cn} {f : Addr} {fd : FuncData} (F : FunD K "settled_sets" "settled_sets" (defArgs s_settled_sets) (defBody s_settled_sets) (defScope s_settled_sets) [] [] f fd) (m : mg "settled_sets" = some (.ref f)) (T : Top K mg C) (c_side_check_standing : Cal P w K mg base 4 "side_check_standing" (sp_side_check_standing C) []) (c_settled_among : Cal P w K mg base 5 "settled_among" (sp_settled_among C) []) :
    Cal P w K mg base 6 "settled_sets" (sp_settled_sets C) [] := by
  refine cal_of F (fn_js (S := sg_settled_sets C) (k := 5) F sc_settled_sets (fun _ => rfl) fun cdv A outer s H E hr => ⟨_, PSs.nox ((pss_cons (ps_expr (pe_c c_side_check_standing hr (by decide) (by rfl) (pa_cons (pv 0) (pa_cons (pv 1) (pa_cons (pv 2) pa_nil)))))
    (pss_one (ps_ret (pe_c c_settled_among hr (by decide) (by rfl) (pa_cons (pv 0) (pa_cons (pv 1) (pa_cons (pv 2) pa_nil)))))))), fun x hd => ?_⟩) m (fun _ _ _ _ _ _ us hl => match us, hl with | [_, _, _], _ => rfl)
  exact ⟨[], False, js_seq (js_drop (jd_call (S := sg_side_check_standing C) x hd (ja_cons (jd_var rfl) (ja_cons (jd_var rfl) (ja_cons (jd_var rfl) ja_nil))))) fun _ =>
    js_ret (jd_call (S := sg_settled_among C) x hd (ja_cons (jd_var rfl) (ja_cons (jd_var rfl) (ja_cons (jd_var rfl) ja_nil)))), fun z => z.elim⟩
end Ost
set_option Elab.async false
set_option linter.all false
set_option maxRecDepth 100000
set_option maxHeartbeats 4000000
/-! D5: lists of one's own, choosers made of them. -/
namespace Ost
open PySem PySem.Spec PyProof.Rows L2
open C8 (Cal pe_c Mak pe_mk Met pe_gc)

/-- a walk over a tuple, whatever is written meanwhile -/
theorem jt_tup {α : Type} {Γ : Gm} {K : PySem.W.Frag} {tl : TE} {xs : List α} {D : α → PyData} (h : Jd Γ tl (dt (.tuple (xs.map D)))) (n : ∀ a ∈ xs, noL (D a) = true) : JiT Γ (iSeq K tl) xs D := fun σ H ty R k => by
  refine .inr (h σ H ty _ fun v H1 e1 p => ?_)
  obtain ⟨a, us, rfl, h1, h2⟩ := of_tup p
  have hlen : us.length = xs.length := by rw [h2.length, List.length_map]
  refine ⟨a, rfl, ⟨us, SqT.of h1⟩, k (Itt K a) H1 (fun H => H a = some (.tup us)) (YAt us) e1 (hlen ▸ walk_tup.mono (fun H z => SqT.of z) fun i H x H' _ _ y => y) h1 (fun Ha Hb e z => e a _ z) fun i Ha x Hb e z hi y => ?_⟩
  obtain ⟨rfl, hx⟩ := y
  obtain ⟨d, hd, pd⟩ := h2.got hx
  obtain ⟨b, hb, rfl⟩ := map_at hd
  exact ⟨b, hb, Same.refl _, Tp.keep e _ _ (n b (List.mem_of_getElem? hb)) pd⟩

abbrev N_ch_len : List Str := ["self"]
theorem sc_ch_len : FnScope N_ch_len ["self"] (defScope s_ch_len) := ⟨rfl, rfl, rfl, by decide +kernel, rfl, by decide +kernel, by decide +kernel⟩
theorem jd_places {K : PySem.W.Frag} {mg : Str → Option Value} {C : Cn} (T : Top K mg C) {Γ : Gm} {te : TE} {c : Ch} (h : Jd Γ te (cho C c)) : Jd Γ (tFld K te "places") (dt (sD (rgI 0 c.n))) := fun σ H ty Q k =>
  h σ H ty _ fun x H1 e1 p1 => by
    obtain ⟨a, dx, tb', pl, fs, kvs, rfl, q2, q3, q4, q5, q6, q7, q8⟩ := p1
    exact ⟨a, C.C, dx, fs, .ref pl, rfl, q2, T.cls, T.nPlaces, q4, k _ H1 e1 (tp_sD.mpr ⟨pl, rfl, q7⟩)⟩
theorem ok_ch_len {P : Program} {w : World} {K : PySem.W.Frag} {mg : Str → Option Value} {base : Heap} {C : Cn} {f : Addr} {fd : FuncData} (F : FunD K "__len__" "Chooser.__len__" (defArgs s_ch_len) (defBody s_ch_len) (defScope s_ch_len) [] [] f fd) (m : Meth K C.C "__len__" f) (T : Top K mg C) : LenOk P w K mg base C := by
  refine ⟨⟨f, fd, ["self"], m, fn_js (S := sg_ch_len C) (k := 0) F sc_ch_len (fun _ => rfl) fun cdv A outer s H E hr => ⟨_, PSs.nox ((pss_one (ps_ret (pe_callB (c_len (K := K) rfl) (by rfl) T.len_ boot_len (pa_cons (e_fld (K := K) rfl (pv 0) rfl) pa_nil))))), fun x hd => ?_⟩, F.bindsN fun _ _ _ _ _ _ us hl => match us, hl with | [_], _ => rfl⟩⟩
  exact ⟨[], False, js_ret ((jd_lenS (jd_places T (jd_var rfl))).eq (by rw [rgI_len])), fun z => z.elim⟩

def setAt (w : World) (D : Addr) (ns : List Int) : VT := ⟨fun v H => v = .ref D ∧ ∃ c, H D = some (SetO w D (fun j => decide (j ∈ ns)) c) ∧ c ≤ ns.length, fun e h => by
  obtain ⟨h1, c, h2, h3⟩ := h
  exact ⟨h1, c, e.get h2, h3⟩⟩
theorem setAt_set {w : World} {D : Addr} {ns : List Int} (v : V) (H : Hp) (h : (setAt w D ns).P v H) : (setT w ns).P v H := by
  obtain ⟨h1, c, h2, h3⟩ := h
  exact ⟨D, c, h1, h2, h3⟩
theorem jd_inS {Γ : Gm} {ta tb : TE} {K : PySem.W.Frag} {w : World} {x : Int} {ns : List Int} (h1 : Jd Γ ta (dt (.int x))) (h2 : Jd Γ tb (setT w ns)) : Jd Γ (tOp (rInA K w) ta tb) (dt (.bool (decide (x ∈ ns)))) :=
  jd_op h1 h2 fun u y H Q p1 p2 k => by
    obtain ⟨a, c, rfl, q1, q2⟩ := p2
    rw [of_int p1]
    exact .inr (.inr ⟨x, a, _, c, rfl, rfl, q1, k _ H (Same.refl H) (dt_bl _)⟩)
def nvT : VT := ⟨fun _ _ => False, fun _ h => h⟩
theorem Ty.weakG {Γ Γ' : Gm} {σ : L2.St} {H : Hp} (t : Ty Γ σ H) (g : Gle Γ Γ') : Ty Γ' σ H := g.ty t
abbrev N_is_list : List Str := ["offers", "thing", "seen", "one"]
theorem sc_is_list : FnScope N_is_list ["offers", "thing"] (defScope s_is_list) := ⟨rfl, rfl, rfl, by decide +kernel, rfl, by decide +kernel, by decide +kernel⟩
def sg_is_list (C : Cn) : Sg (Nat × List Int) := ⟨fun x => x.2.Nodup ∧ (∀ y ∈ x.2, 0 ≤ y ∧ y < (x.1 : Int)) ∧ x.2.length ≤ 100, fun x => [dt (.int x.1), dt (sD x.2)], fun _ => dt (.bool true)⟩
def sp_is_list (C : Cn) : Sp := (sg_is_list C).sp
theorem ok_is_list {P : Program} {w : World} {K : PySem.W.Frag} {mg : Str → Option Value} {base : Heap} {C : Cn} {f : Addr} {fd : FuncData} (F : FunD K "is_list" "is_list" (defArgs s_is_list) (defBody s_is_list) (defScope s_is_list) [] [] f fd) (m : mg "is_list" = some (.ref f)) (T : Top K mg C) (c_is_whole : Cal P w K mg base 1 "is_whole" (sp_is_whole C) []) :
    Cal P w K mg base 2 "is_list" (sp_is_list C) [] := by
  refine cal_of F (fn_hand (S := sg_is_list C) (k := 1) F sc_is_list (fun _ => rfl) fun cdv A outer s H E hr => ⟨_, PSs.nox ((pss_cons (ps_if (pt_not (pt_val (pe_callB (c_isi (K := K) rfl) (by rfl) T.isinstance_ boot_isinstance (pa_cons (pv 1) (pa_cons (pe_bltn (v := .ty "tuple") (by rfl) T.tuple_ boot_tuple rfl) pa_nil))))) (pss_one (ps_ret pe_bl)) pss_nil)
    (pss_cons (ps_set (i := 2) sc_is_list.nd rfl (Or.inl rfl) (pe_callTy0 (c_set0 (w := w) rfl) (by rfl) T.set_ boot_set))
    (pss_cons (ps_for PassesOwn.never rfl (i_seq (K := K) rfl (pv 1)) (pg_name (i := 3) sc_is_list.nd rfl (Or.inl rfl)) (pss_cons (ps_if (PW.pt (pw_or (pt_not (pt_val (pe_c c_is_whole hr (by decide) (by rfl) (pa_cons (pv 3) pa_nil)))) (pw_or (pt_not (pt_chain op_le op_lt pe_int (pv 3) (pv 0))) (pw_or1 (pt_cmpR (o_in (K := K) (w := w) rfl rfl (hu65 hr)) (pv 3) (pv 2) (by rfl)))))) (pss_one (ps_ret pe_bl)) pss_nil)
    (pss_one (ps_expr (pe_sadd (pv 2) (pa_cons (pv 3) pa_nil))))))
    (pss_one (ps_ret pe_bl)))))), fun vs x hd hf Q hq => ?_⟩) m (fun _ _ _ _ _ _ us hl => match us, hl with | [_, _], _ => rfl)
  obtain ⟨n, row⟩ := x
  have hd : row.Nodup ∧ (∀ y ∈ row, 0 ≤ y ∧ y < (n : Int)) ∧ row.length ≤ 100 := hd
  obtain ⟨nd, hb, hl⟩ := id hd
  have ty := ty_start hf N_is_list
  refine (js_guard (jt_not (jt_B (jd_isTup (jd_var rfl) jd_ty))) : Js _ _ _ _ nvT) _ _ ty _ (fun _ σ1 H1 e1 ty1 => ?_) (fun v H' _ p => p.elim)
  refine ⟨rfl, fun D hD => ?_⟩
  have sm0 : Same H1 (upd H1 D (SetO w D (fun _ => false) 0)) := same_upd hD
  have t2 : Ty [some (dt (.int n)), some (dt (sD row)), some (setAt w D []), none] (σ1.set 2 (some (.ref D))) (upd H1 D (SetO w D (fun _ => false) 0)) := (ty1.mono sm0).set 2 (t := setAt w D []) (v := .ref D) ⟨rfl, 0, by rw [upd_same]; rfl, Nat.zero_le _⟩
  have q0 := e1.trans sm0
  refine jt_tup (xs := row) (D := .int) (jd_var rfl) (fun _ _ => noL_int _) _ _ t2 _ fun J H2 G Yw e2 W g2 gm gy => ?_
  refine for_it W (fun i σ' H' => Same H1 H' ∧ Ty [some (dt (.int n)), some (dt (sD row)), some (setAt w D (row.take i)), none] σ' H' ∧ Tups H2 H' ∧ G H') ⟨sm0.trans e2, t2.mono e2, Tups.refl _, g2⟩ (fun i σ' H' _ z => z.2.2.2) (fun i x σ' Ha Hb hlt ⟨sa, tya, tua, ga⟩ hy => ?_) fun σ' H' ⟨sa, tya, _⟩ => hq _ H' (e1.trans sa) (dt_bl true)
  obtain ⟨a, ha, sm, pa⟩ := gy i Ha x Hb tua ga hlt hy
  have ma := List.mem_of_getElem? ha
  have na : a ∉ row.take i := fun z => by
    obtain ⟨hi, e⟩ := List.getElem?_eq_some_iff.mp ha
    obtain ⟨j, hj, e2⟩ := List.getElem_of_mem z
    rw [List.length_take] at hj
    rw [List.getElem_take] at e2
    exact List.pairwise_iff_getElem.mp nd j i (by omega) hi (by omega) (e2.trans e.symm)
  have t3 : Ty [some (dt (.int n)), some (dt (sD row)), some (setAt w D (row.take i)), some (dt (.int a))] (σ'.set 3 (some x)) Hb := (tya.mono sm).set 3 (t := dt (.int a)) pa
  refine (js_guard (Jt.eq (jt_or (jt_not (jt_B (jd_call (S := sg_is_whole C) a trivial (ja_cons (jd_var rfl) ja_nil)))) fun _ => jt_or (jt_not (jt_test (jd_lelt jd_int (jd_var rfl) (jd_var rfl)))) fun _ => jt_test (jd_inS (jd_var rfl) (Jd.imp (jd_var rfl) setAt_set))) ?_) : Js _ _ _ _ nvT) _ _ t3 _ (fun _ σ4 H4 e4 t4 => ?_) (fun v H' _ p => p.elim)
  · have b1 := hb a ma
    rw [decide_eq_true b1.1, decide_eq_true b1.2, decide_eq_false na]
    rfl
  obtain ⟨v2, h2, rfl, c, hc, hcl⟩ := t4.at_ 2 _ rfl
  obtain ⟨v3, h3, p3⟩ := t4.at_ 3 _ rfl
  rw [of_int p3] at h3
  refine ⟨.ref D, h2, ⟨D, _, c, rfl, hc⟩, .int a, h3, D, a, _, c, rfl, rfl, hc, ?_, ?_⟩
  · have := List.length_take_le i row
    rw [List.length_take] at hcl
    unfold scanBound
    omega
  · have nt : ∀ ys, H4 D ≠ some (.tup ys) := fun ys z => by rw [hc] at z; cases z
    have tu : Tups H4 (upd H4 D (SetO w D (fun j => decide (j ∈ row.take i) || decide (j = a)) (if decide (a ∈ row.take i) = true then c else c + 1))) := Tups.upd nt
    have tall := (Tups.of (sm.trans e4)).trans tu
    refine ⟨same_mut ((sa.trans sm).trans e4) hD (nocode_set hc), ?_, tua.trans tall, gm _ _ tall ga⟩
    obtain ⟨v0, h0, p0⟩ := t4.at_ 0 _ rfl
    obtain ⟨v1, h1, p1⟩ := t4.at_ 1 _ rfl
    refine ⟨t4.len, fun j t hj => ?_⟩
    match j, hj with
    | 0, hj => cases hj; exact ⟨v0, h0, Tp.keep tu _ _ (noL_int _) p0⟩
    | 1, hj => cases hj; exact ⟨v1, h1, Tp.keep tu _ _ (noL_sD _) p1⟩
    | 2, hj =>
      cases hj
      refine ⟨_, h2, rfl, if decide (a ∈ row.take i) = true then c else c + 1, ?_, ?_⟩
      · rw [upd_same, mem_fun, take_snoc ha]
        rfl
      · rw [take_snoc ha, List.length_append, decide_eq_false na]
        exact Nat.succ_le_succ hcl
    | 3, hj => cases hj
    | j + 4, hj => simp at hj

abbrev N_firsts : List Str := ["lists", "some", "found", "row", "one"]
theorem sc_firsts : FnScope N_firsts ["lists", "some"] (defScope s_firsts) := ⟨rfl, rfl, rfl, by decide +kernel, rfl, by decide +kernel, by decide +kernel⟩
/-- what is in the tuple of the lists' firsts -/
def firstsL (rows : List (List Int)) (s : List Int) : List Int := canon (rows.filterMap fun row => firstIn row s)
def sg_firsts (C : Cn) : Sg (List (List Int) × List Int) := ⟨fun x => x.1.length ≤ 60, fun x => [dt (setsD x.1), dt (sD x.2)], fun x => dt (sD (firstsL x.1 x.2))⟩
def sp_firsts (C : Cn) : Sp := (sg_firsts C).sp
theorem firsts_opt (rows : List (List Int)) (s : List Int) : ((rows.map fun row => firstIn row s).filter fun o => o.isSome).map (fun o => o.getD 0) = rows.filterMap fun row => firstIn row s := by
  induction rows with
  | nil => rfl
  | cons r rows ih =>
    rw [List.map_cons, List.filterMap_cons]
    cases h : firstIn r s with
    | none =>
      rw [List.filter_cons_of_neg (by simp)]
      exact ih
    | some x =>
      rw [List.filter_cons_of_pos (by simp), List.map_cons, ih]
      rfl
theorem ok_firsts {P : Program} {w : World} {K : PySem.W.Frag} {mg : Str → Option Value} {base : Heap} {C : Cn} {f : Addr} {fd : FuncData} (F : FunD K "firsts" "firsts" (defArgs s_firsts) (defBody s_firsts) (defScope s_firsts) [] [] f fd) (m : mg "firsts" = some (.ref f)) (T : Top K mg C) (c_list_first : Cal P w K mg base 1 "list_first" (sp_list_first C) []) :
    Cal P w K mg base 2 "firsts" (sp_firsts C) [] := by
  refine cal_of F (fn_js (S := sg_firsts C) (k := 1) F sc_firsts (fun _ => rfl) fun cdv A outer s H E hr => ⟨_, PSs.nox ((pss_cons (ps_setLc (i := 2) (own := [("row", 3)]) rfl sc_firsts.nd rfl rfl (sw_true rfl rfl rfl (by decide +kernel)) (i_seq (K := K) rfl (pv 0)) (blkOk_by (own := [("row", 3)]) (N := N_firsts) (sc := defScope s_firsts) (by decide +kernel)) (fun _ _ _ _ _ => (pg_name (i := 3) sc_firsts.nd rfl (Or.inl rfl))) (fun _ _ _ _ _ => pts_nil) (fun _ _ _ _ _ => (pe_c c_list_first hr (by decide) (by rfl) (pa_cons (pv 3) (pa_cons (pv 1) pa_nil)))))
    (pss_one (ps_ret (pe_callTy (c_tup (K := K) rfl) (by rfl) T.tuple_ boot_tuple (pa_cons (pe_callB (c_sorted (w := w) rfl rfl (hu65 hr)) (by rfl) T.sorted_ boot_sorted (pa_cons (pe_scI (K := K) (w := w) rfl (own := [("one", 4)]) rfl sc_firsts.nd (i_seq (K := K) rfl (pv 2)) (blkOk_by (own := [("one", 4)]) (N := N_firsts) (sc := defScope s_firsts) (by decide +kernel)) (fun _ _ _ _ _ => (pg_name (i := 4) sc_firsts.nd rfl (Or.inl rfl))) (fun _ _ _ _ _ => pts_one (pt_cmpR op_notN0 (pv 4) pe_non (nomark _))) (fun _ _ _ _ _ => (pv 4))) pa_nil)) pa_nil)))))), fun x hd => ?_⟩) m (fun _ _ _ _ _ _ us hl => match us, hl with | [_, _], _ => rfl)
  obtain ⟨rows, s⟩ := x
  have hl : rows.length ≤ 60 := hd
  refine ⟨[], False, js_seq (js_asg (jd_of_jf (ds := (rows.map fun row => firstIn row s).map optD) (Jf.eq (jf_lc (xs := rows) (bind := fun r Γ => Γ.set 3 (some (dt (sD r)))) (p := fun _ => true) (q := fun r => optD (firstIn r s)) (ji_tup (D := sD) (jd_var rfl)) (tg_name 3) (fun r hr => jt_yes) (fun r hr _ => jd_call (S := sg_list_first C) (r, s) trivial (ja_cons (jd_var rfl) (ja_cons (jd_var rfl) ja_nil))) (by omega) (fun r _ _ => ?_)) ?_))) fun _ =>
    js_ret (jd_tupOf (jd_of_jf (Jf.eq (jf_sortSet (s := ((rows.map fun row => firstIn row s).filter fun o => o.isSome).map fun o => o.getD 0) (jd_scI (xs := rows.map fun row => firstIn row s) (Y := fun o => dt (optD o)) (bind := fun o Γ => Γ.set 4 (some (dt (optD o)))) (p := fun o => o.isSome) (q := fun o => o.getD 0) (ji_lst (D := optD) (jd_var rfl)) (tg_name 4) (fun o ho => Jt.eq (jt_test (jd_notN (jd_var rfl))) ?_) (fun o ho hs => (jd_var rfl : Jd _ _ (dt (optD o))).eq ?_) (by rw [List.length_map]; omega)) ?_) ?_))), fun z => z.elim⟩
  · cases firstIn r s <;> simp [optD, noL]
  · rw [List.filter_eq_self.mpr (fun _ _ => rfl), List.map_map]
    rfl
  · cases o <;> rfl
  · cases o with
    | none => cases hs
    | some x => rfl
  · have := List.length_filter_le (fun o : Option Int => o.isSome) (rows.map fun row => firstIn row s)
    rw [List.length_map] at this ⊢
    omega
  · rw [firsts_opt]
    rfl
end Ost
set_option Elab.async false
set_option linter.all false
set_option maxRecDepth 100000
set_option maxHeartbeats 4000000
/-! D6: choosers made. -/
namespace Ost
open PySem PySem.Spec PyProof.Rows L2
open C8 (Cal pe_c Mak pe_mk Met pe_gc)

theorem noL_setsD (L : List (List Int)) : noL (setsD L) = true := by unfold setsD; rw [noL_tuple]; exact noLs_sets L
theorem lookD_none {m : List (List Int × PyData)} {s : List Int} (h : ∀ q ∈ m, q.1 ≠ s) : lookD m s = none := by
  unfold lookD
  rw [List.find?_eq_none.mpr fun q hq => by simpa using h q hq]
  rfl
theorem lookD_map {g : List Int → PyData} : ∀ {L : List (List Int)} {s : List Int}, L.Nodup → s ∈ L → lookD (L.map fun s => (s, g s)) s = some (g s)
  | t :: L, s, nd, h => by
    obtain ⟨h1, h2⟩ := List.nodup_cons.mp nd
    by_cases e : t = s
    · subst e
      unfold lookD
      rw [List.map_cons, List.find?_cons_of_pos (by simp)]
      rfl
    · have : lookD ((t :: L).map fun s => (s, g s)) s = lookD (L.map fun s => (s, g s)) s := by
        unfold lookD
        rw [List.map_cons, List.find?_cons_of_neg (by simpa using e)]
      rw [this]
      exact lookD_map h2 ((List.mem_cons.mp h).resolve_left fun z => e z.symm)
theorem putF_len (f : Str) (v : V) : ∀ {fs : List (Str × V)} {n : Nat}, fs.length ≤ n → (putF f v fs).length ≤ n + 1
  | [], n, _ => by show 1 ≤ n + 1; omega
  | (g, x) :: r, n, h => by
    unfold putF
    split
    · exact Nat.le_succ_of_le h
    · obtain ⟨m, rfl⟩ : ∃ m, n = m + 1 := ⟨n - 1, by rw [List.length_cons] at h; omega⟩
      exact Nat.succ_le_succ (putF_len f v (Nat.le_of_succ_le_succ h))
theorem tab_write {C : Cn} {H : Hp} {p : Addr} {u : HO} (t : Tab C H) (nc : NoCode H p) (nt : ∀ ps, H p ≠ some (.tbl ps)) : Tab C (upd H p u) := by
  obtain ⟨ps, h1, h2, h3⟩ := t
  refine ⟨ps, by rw [upd_ne fun z => nt ps (by rw [← z]; exact h1)]; exact h1, h2, fun pos cv hc => ?_⟩
  obtain ⟨c, e1, e2⟩ := h3 pos cv hc
  exact ⟨c, e1, by rw [upd_ne fun z => nc c _ (by rw [← z]; exact e2)]; exact e2⟩
theorem upd_upd {H : Hp} {a : Addr} {o u : HO} : upd (upd H a o) a u = upd H a u := by
  funext b
  by_cases e : b = a
  · subst e; rw [upd_same, upd_same]
  · rw [upd_ne e, upd_ne e, upd_ne e]

theorem Jm.step {Γ Γ1 : Mm} {s1 s2 : TS} {C1 : Prop} {H0 H : Hp} {σ : L2.St} {D : Ends} (h : Jm Γ s1 Γ1 C1 nvT) (ty : TyM H0 Γ σ H) (k : C1 → ∀ σ1 H1, Fra Γ σ H Γ1 σ1 H1 → TyM H0 Γ1 σ1 H1 → s2 D σ1 H1) : tSeq s1 s2 D σ H := h H0 σ H ty _ k fun v H' _ p => p.elim

abbrev N_ch_init : List Str := ["self", "offers", "picks", "sets", "table", "number", "some", "pick"]
theorem sc_ch_init : FnScope N_ch_init ["self", "offers", "picks"] (defScope s_ch_init) := ⟨rfl, rfl, rfl, by decide +kernel, rfl, by decide +kernel, by decide +kernel⟩
/-- the new instance at x -/
def insT (C : Cn) (x dx : Addr) : VT := ⟨fun v H => v = .ref x ∧ H x = some (.ins C.C dx []), fun e h => ⟨h.1, e.get h.2⟩⟩
def sp_ch_init (C : Cn) : Sp := fun vs H Q _ => ∃ (x dx : Addr) (c : Ch) (u1 u2 : V), vs = [.ref x, u1, u2] ∧ Fits [insT C x dx, dt (.int c.n), dtT C (setsD ((allS c.n).map c.f))] [.ref x, u1, u2] H ∧ (1 ≤ c.n ∧ c.n ≤ 6) ∧ ChOk c ∧
  ∀ H2, (∀ H1, Same H1 H → H1 x = none → Same H1 H2) → (cho C c).P (.ref x) H2 → Q .non H2
theorem ok_ch_init {P : Program} {w : World} {K : PySem.W.Frag} {mg : Str → Option Value} {base : Heap} {C : Cn} {f : Addr} {fd : FuncData} (F : FunD K "__init__" "Chooser.__init__" (defArgs s_ch_init) (defBody s_ch_init) (defScope s_ch_init) [] [] f fd) (M : Mk K C.C f) (hm : mg "Chooser" = some (.ref C.C)) (T : Top K mg C) (c_all_sets : Cal P w K mg base 1 "all_sets" (sp_all_sets C) []) (c_is_whole : Cal P w K mg base 1 "is_whole" (sp_is_whole C) []) (c_is_set : Cal P w K mg base 2 "is_set" (sp_is_set C) []) (c_chooser_is_part : Cal P w K mg base 1 "chooser_is_part" (sp_chooser_is_part C) []) : Mak P w K mg base 3 "Chooser" C.C (sp_ch_init C) [] := by
  refine ⟨⟨f, fd, ["self", "offers", "picks"], [], M, F.ok sc_ch_init (fun vs H Q E h => ?_) (fun cdv A outer s H vs Q E hr h => ⟨_, PSs.nox ((pss_cons (ps_if (PW.pt (pw_or (pt_not (pt_val (pe_c c_is_whole hr (by decide) (by rfl) (pa_cons (pv 1) pa_nil)))) (pw_or1 (pt_not (pt_chain op_le op_le pe_int (pv 1) (pe_gc (by rfl) T.most)))))) (pss_one ps_never) pss_nil)
    (pss_cons (ps_set (i := 3) sc_ch_init.nd rfl (Or.inl rfl) (pe_c c_all_sets hr (by decide) (by rfl) (pa_cons (pv 1) pa_nil)))
    (pss_cons (ps_if (PW.pt (pw_or (pt_not (pt_val (pe_callB (c_isi (K := K) rfl) (by rfl) T.isinstance_ boot_isinstance (pa_cons (pv 2) (pa_cons (pe_bltn (v := .ty "tuple") (by rfl) T.tuple_ boot_tuple rfl) pa_nil))))) (pw_or1 (pt_cmpR (o_ne (K := K) rfl hr.units) (pe_callB (c_len (K := K) rfl) (by rfl) T.len_ boot_len (pa_cons (pv 2) pa_nil)) (pe_callB (c_len (K := K) rfl) (by rfl) T.len_ boot_len (pa_cons (pv 3) pa_nil)) (nomark _))))) (pss_one ps_never) pss_nil)
    (pss_cons (ps_set (i := 4) sc_ch_init.nd rfl (Or.inl rfl) pe_dnewT)
    (pss_cons (ps_for PassesOwn.never rfl (pi_enumA (K := K) rfl (by rfl) T.enumerate_ (pa_cons (pv 3) pa_nil)) (g_tup (K := K) (n := 2) rfl (by rfl) (pgs_cons (pg_name (i := 5) sc_ch_init.nd rfl (Or.inl rfl)) (pgs_cons (pg_name (i := 6) sc_ch_init.nd rfl (Or.inl rfl)) pgs_nil))) (pss_cons (ps_set (i := 7) sc_ch_init.nd rfl (Or.inl rfl) (pe_ix (x_ix (K := K) rfl) (pv 2) (pv 5) (fun _ _ => rfl)))
    (pss_cons (ps_if (PW.pt (pw_or (pt_not (pt_val (pe_c c_is_set hr (by decide) (by rfl) (pa_cons (pv 1) (pa_cons (pv 7) pa_nil))))) (pw_or1 (pt_not (pt_val (pe_c c_chooser_is_part hr (by decide) (by rfl) (pa_cons (pv 7) (pa_cons (pv 6) pa_nil)))))))) (pss_one ps_never) pss_nil)
    (pss_one (ps_dput (hu_of hr) (pv 4) (pv 6) (pv 7) rfl)))))
    (pss_cons (ps_fld (pv 0) (pv 1) rfl)
    (pss_cons (ps_fld (pv 0) (pv 2) rfl)
    (pss_cons (ps_fld (pv 0) (pv 4) rfl)
    (pss_one (ps_fld (pv 0) (pe_tupRg rfl (by rfl) T.tuple_ (prg_1 (by rfl) T.range_ (pv 1))) rfl))))))))))), ?_⟩), hm, F.bindsN fun _ _ _ _ _ _ us hl => match us, hl with | [_, _, _], _ => rfl, .nil⟩⟩
  · obtain ⟨x, dx, c, u1, u2, rfl, _⟩ := h
    rfl
  obtain ⟨x, dx, c, u1, u2, rfl, hf, ⟨hn1, hn6⟩, hok, hq⟩ := h
  have ty0 := jm_args hf 5
  have al := allS_len hn6
  have nd := allS_nodup hn6
  let A3 : Mm := [some (.arg (insT C x dx)), some (.arg (dt (.int c.n))), some (.arg (dtT C (setsD ((allS c.n).map c.f))))]
  have pk : ∀ {Γ : Mm}, Γ[2]? = some (some (.arg (dtT C (setsD ((allS c.n).map c.f))))) → Jd (vtG Γ) (tVar 2) (dt (setsD ((allS c.n).map c.f))) := fun {Γ} e => Jd.imp (jd_var (T := dtT C (setsD ((allS c.n).map c.f))) (by unfold vtG; rw [List.getElem?_map, e]; rfl)) fun v H p => p.1
  -- the checks
  refine Jm.step (jm_guard (Jt.eq (jt_or (jt_not (jt_B (jd_call (S := sg_is_whole C) c.n trivial (ja_cons (jd_var rfl) ja_nil)))) fun _ => jt_not (jt_test (jd_lele jd_int (jd_var rfl) jd_int))) ?_)) ty0 (fun _ σ1 H1 f1 ty1 => ?_)
  · rw [decide_eq_true (show (1 : Int) ≤ c.n by omega), decide_eq_true (show (c.n : Int) ≤ 6 by omega)]
    rfl
  refine Jm.step (jm_asg (d := setsD (allS c.n)) (jd_call (S := sg_all_sets C) c.n hn6 (ja_cons (jd_var rfl) ja_nil)) (noL_setsD _)) ty1 (fun _ σ2 H2 f2 ty2 => ?_)
  refine Jm.step (jm_guard (Jt.eq (jt_or (jt_not (jt_B (jd_isTup (pk rfl) jd_ty))) fun _ => jt_test (jd_neInt (jd_lenT (pk rfl)) (jd_lenT (jd_var rfl)))) ?_)) ty2 (fun _ σ3 H3 f3 ty3 => ?_)
  · rw [List.length_map, List.length_map, List.length_map]
    simp
  refine Jm.step (jm_newD) ty3 (fun _ σ4 H4 f4 ty4 => ?_)
  let mi : Nat → List (List Int × PyData) := fun i => ((allS c.n).take i).map fun s => (s, sD (c.f s))
  refine Jm.step (jm_forT (xs := (allS c.n).zipIdx) (Y := fun p => .tuple [.int (p.2 : Int), sD p.1]) (bd := fun p Γ => (Γ.set 5 (some (.dat (.int (p.2 : Int))))).set 6 (some (.dat (sD p.1)))) (Γs := fun i => A3 ++ [some (.dat (setsD (allS c.n))), some (.dic (mi i)), none, none, none]) (C := fun _ => True)
    (jt_enum (D := sD) (jd_var rfl) fun s _ => noL_sD s) (fun p _ => ?_) (tm_pair 5 6) trivial (fun i p hp _ => ?_)) ty4 (fun _ σ5 H5 f5 ty5 => ?_)
  · rw [noL_tuple, noLs_cons, noLs_cons, noL_int, noL_sD]
    rfl
  · rw [List.getElem?_zipIdx] at hp
    obtain ⟨s, hs, rfl⟩ := Option.map_eq_some_iff.mp hp
    have ms : IsSet c.n s := mem_allS.mp (List.mem_of_getElem? hs)
    obtain ⟨k1, k2⟩ := hok s ms
    have hi : i < (allS c.n).length := (List.getElem?_eq_some_iff.mp hs).1
    refine jm_seq (jm_asg (d := sD (c.f s)) (jd_ixT (ds := ((allS c.n).map c.f).map sD) (pk rfl) (jd_var rfl) (ix_to (j := i) ?_ ?_)) (noL_sD _)) fun _ =>
      jm_seq (jm_guard (Jt.eq (jt_or (jt_not (jt_B (jd_call (S := sg_is_set C) (c.n, c.f s) k1 (ja_cons (jd_var rfl) (ja_cons (jd_var rfl) ja_nil))))) fun _ => jt_not (jt_B (jd_call (S := sg_chooser_is_part C) (c.f s, s) k2 (ja_cons (jd_var rfl) (ja_cons (jd_var rfl) ja_nil))))) rfl)) fun _ =>
      jm_weak (jm_dput (m := mi i) (s := s) (d := sD (c.f s)) rfl (jd_var rfl) (jd_var rfl) (noL_sD _) ?_ ?_) ?_
    · unfold ixN
      rw [List.length_map, List.length_map, if_pos (by omega), if_pos (by omega)]
      simp
    · rw [List.map_map, List.getElem?_map, hs]
      rfl
    · refine lookD_none fun q hq => ?_
      obtain ⟨t, ht, rfl⟩ := List.mem_map.mp hq
      rintro rfl
      obtain ⟨j, hj, e⟩ := List.getElem_of_mem ht
      rw [List.length_take] at hj
      rw [List.getElem_take] at e
      exact List.pairwise_iff_getElem.mp nd j i (by omega) hi (by omega) (e.trans (List.getElem?_eq_some_iff.mp hs).2.symm)
    · show (List.map _ _).length < _
      rw [List.length_map]
      have := List.length_take_le i (allS c.n)
      omega
    · refine ⟨rfl, rfl, rfl, rfl, ?_, trivial⟩
      show some (MT.dic (((allS c.n).take i).map (fun s => (s, sD (c.f s))) ++ [(s, sD (c.f s))])) = some (MT.dic (((allS c.n).take (i + 1)).map fun s => (s, sD (c.f s))))
      rw [take_snoc hs, List.map_append]
      rfl
  -- the fields
  have sm := ty5.same
  obtain ⟨v0, g0, p0⟩ := ty5.at_ 0 _ rfl
  obtain ⟨v1, g1, p1⟩ := ty5.at_ 1 _ rfl
  obtain ⟨v2, g2, p2⟩ := ty5.at_ 2 _ rfl
  obtain ⟨v4, g4, n4, l, kvs, rfl, h0l, hl, hall⟩ := ty5.at_ 4 _ rfl
  obtain ⟨rfl, hx⟩ : v0 = .ref x ∧ H x = some (.ins C.C dx []) := p0
  obtain rfl : v1 = .int c.n := of_int p1
  have hx5 : H5 x = some (.ins C.C dx []) := sm.get hx
  have xl : l ≠ x := fun z => by rw [z, hx] at h0l; cases h0l
  refine ⟨_, g1, .ref x, g0, x, C.C, dx, [], rfl, hx5, T.cls, T.nOffers, by decide, ?_⟩
  refine ⟨_, g2, .ref x, g0, x, C.C, dx, _, rfl, upd_same, T.cls, T.nPicks, Nat.lt_of_le_of_lt (putF_len _ _ (Nat.zero_le 0)) (by decide), ?_⟩
  refine ⟨_, g4, .ref x, g0, x, C.C, dx, _, rfl, upd_same, T.cls, T.nTable, Nat.lt_of_le_of_lt (putF_len _ _ (putF_len _ _ (Nat.zero_le 0))) (by decide), ?_⟩
  rw [upd_upd, upd_upd]
  refine ⟨.int c.n, g1, c.n, rfl, ⟨by omega, by omega, by omega, by omega, by omega⟩, fun q hnq => ?_⟩
  have hq0 : H5 q = none ∧ q ≠ x := by
    by_cases e : q = x
    · subst e; rw [upd_same] at hnq; cases hnq
    · rw [upd_ne e] at hnq; exact ⟨hnq, e⟩
  refine ⟨.ref x, g0, x, C.C, dx, _, rfl, by rw [upd_ne (Ne.symm hq0.2), upd_same], T.cls, T.nPlaces, Nat.lt_of_le_of_lt (putF_len _ _ (putF_len _ _ (putF_len _ _ (Nat.zero_le 0)))) (by decide), ?_⟩
  refine hq _ (fun Ha ea nx => ?_) ?_
  · have s5 : Same Ha H5 := ea.trans sm
    have a1 := same_mut (o := .ins C.C dx (putF "table" (.ref l) (putF "picks" v2 (putF "offers" (.int c.n) [])))) s5 nx (nocode_ins hx5)
    have a2 : Same Ha _ := a1.trans (same_upd (o := .tup (rgV 0 c.n)) hnq)
    exact same_mut a2 nx (nocode_ins (by rw [upd_ne (Ne.symm hq0.2), upd_same]))
  · have tab5 : Tab C H5 := p2.2.mono sm
    have t6 := tab_write (u := .ins C.C dx (putF "table" (.ref l) (putF "picks" v2 (putF "offers" (.int c.n) [])))) tab5 (nocode_ins hx5) fun ps z => by rw [hx5] at z; cases z
    have t7 := Tab.mono (same_upd (o := .tup (rgV 0 c.n)) hnq) t6
    have tab_end := fun u => tab_write (u := u) t7 (p := x) (nocode_ins (by rw [upd_ne (Ne.symm hq0.2), upd_same])) fun ps z => by rw [upd_ne (Ne.symm hq0.2), upd_same] at z; cases z
    refine ⟨x, dx, l, q, _, kvs, rfl, upd_same, rfl, rfl, ?_, fun s hs => ?_, ?_, ?_⟩
    · left
      rw [upd_ne xl, upd_ne (ne_of_none hl hq0.1), upd_ne xl]
      exact hl
    · have := hall.look s
      rw [show lookD (mi (allS c.n).zipIdx.length) s = some (sD (c.f s)) from ?_] at this
      · obtain ⟨v, e1, e2⟩ := this
        obtain ⟨p, rfl, e3⟩ := tp_sD.mp e2
        have px : p ≠ x := fun z => by rw [z, hx5] at e3; cases e3
        exact ⟨p, e1, by rw [upd_ne px, upd_ne (ne_of_none e3 hq0.1), upd_ne px]; exact e3⟩
      · show lookD (((allS c.n).take _).map fun s => (s, sD (c.f s))) s = _
        rw [List.length_zipIdx, List.take_of_length_le (Nat.le_refl _)]
        exact lookD_map (g := fun s => sD (c.f s)) nd (mem_allS.mpr hs)
    · rw [upd_ne hq0.2, upd_same]
      show some (HO.tup ((List.range ((c.n : Int) - 0).toNat).map fun i => V.int (0 + (i : Nat)))) = some (HO.tup (((List.range c.n).map fun (i : Nat) => (0 : Int) + (i : Int)).map V.int))
      rw [List.map_map, show ((c.n : Int) - 0).toNat = c.n by omega]
      rfl
    · exact tab_end _

/-- a chooser made -/
theorem jd_mk {Γ : Gm} {tg : TA} {C : Cn} {c : Ch} {E : XK} (h : Ja Γ tg [dt (.int c.n), dt (setsD ((allS c.n).map c.f))]) (hT : ∀ σ H, Ty Γ σ H → Tab C H) (hn : 1 ≤ c.n ∧ c.n ≤ 6) (ok : ChOk c) : Jd Γ (tMake C.C (sp_ch_init C) [] E tg) (cho C c) := fun σ H ty Q k =>
  h σ H ty _ fun vs H1 e1 p => fun x dx hx hdx hne => by
    match vs, p with
    | [u1, u2], p =>
      have hd2 : H1 x = none ∧ upd H1 dx (.own x) x = none := ⟨hx, by rw [upd_ne (Ne.symm hne)]; exact hx⟩
      have s1 : Same H1 (upd H1 dx (.own x)) := same_upd hdx
      have s2 : Same H1 (upd (upd H1 dx (.own x)) x (.ins C.C dx [])) := s1.trans (same_upd hd2.2)
      refine ⟨x, dx, c, u1, u2, rfl, ⟨⟨rfl, upd_same⟩, (dt _).mono s2 p.1, ⟨(dt _).mono s2 p.2.1, (hT _ _ (ty.mono e1)).mono s2⟩, trivial⟩, hn, ok, fun H2 hs hc => ⟨rfl, k _ H2 (e1.trans (hs H1 s2 hx)) hc⟩⟩
/-- the chooser of lists -/
def chL (n : Nat) (rows : List (List Int)) : Ch := ⟨n, firstsL rows⟩
theorem firstIn_mem {row s : List Int} {x : Int} (h : firstIn row s = some x) : x ∈ s ∧ x ∈ row := by
  unfold firstIn at h
  have := List.find?_some h
  exact ⟨by simpa using this, List.mem_of_find?_eq_some h⟩
theorem mem_firstsL {rows : List (List Int)} {s : List Int} {x : Int} : x ∈ firstsL rows s ↔ ∃ row ∈ rows, firstIn row s = some x := by
  unfold firstsL
  rw [mem_canon, List.mem_filterMap]
theorem chL_ok (n : Nat) (rows : List (List Int)) : ChOk (chL n rows) := fun s hs => by
  have key : ∀ x ∈ firstsL rows s, x ∈ s := fun x hx => by
    obtain ⟨row, _, h⟩ := mem_firstsL.mp hx
    exact (firstIn_mem h).1
  exact ⟨isSet_sub hs (asc_canon _) key, key⟩

abbrev N_by_lists : List Str := ["offers", "lists", "number", "row", "some"]
theorem sc_by_lists : FnScope N_by_lists ["offers", "lists"] (defScope s_by_lists) := ⟨rfl, rfl, rfl, by decide +kernel, rfl, by decide +kernel, by decide +kernel⟩
structure ListsOk (n : Nat) (rows : List (List Int)) : Prop where
  n1 : 1 ≤ n
  n6 : n ≤ 6
  few : rows.length ≤ 60
  nd : ∀ row ∈ rows, row.Nodup
  bd : ∀ row ∈ rows, ∀ y ∈ row, 0 ≤ y ∧ y < (n : Int)
  len : ∀ row ∈ rows, row.length ≤ 100
def sg_by_lists (C : Cn) : Sg (Nat × List (List Int)) := ⟨fun x => ListsOk x.1 x.2, fun x => [dt (.int x.1), dtT C (setsD x.2)], fun x => cho C (chL x.1 x.2)⟩
def sp_by_lists (C : Cn) : Sp := (sg_by_lists C).sp
theorem ok_by_lists {P : Program} {w : World} {K : PySem.W.Frag} {mg : Str → Option Value} {base : Heap} {C : Cn} {f : Addr} {fd : FuncData} (F : FunD K "by_lists" "by_lists" (defArgs s_by_lists) (defBody s_by_lists) (defScope s_by_lists) [] [] f fd) (m : mg "by_lists" = some (.ref f)) (T : Top K mg C) (c_ch_init : Mak P w K mg base 3 "Chooser" C.C (sp_ch_init C) []) (c_is_list : Cal P w K mg base 2 "is_list" (sp_is_list C) []) (c_firsts : Cal P w K mg base 2 "firsts" (sp_firsts C) []) (c_all_sets : Cal P w K mg base 1 "all_sets" (sp_all_sets C) []) :
    Cal P w K mg base 5 "by_lists" (sp_by_lists C) [] := by
  refine cal_of F (fn_js (S := sg_by_lists C) (k := 4) F sc_by_lists (fun _ => rfl) fun cdv A outer s H E hr => ⟨_, PSs.nox ((pss_cons (ps_if (pt_not (pt_val (pe_callB (c_isi (K := K) rfl) (by rfl) T.isinstance_ boot_isinstance (pa_cons (pv 1) (pa_cons (pe_bltn (v := .ty "tuple") (by rfl) T.tuple_ boot_tuple rfl) pa_nil))))) (pss_one ps_never) pss_nil)
    (pss_cons (ps_for PassesOwn.never rfl (pi_enumA (K := K) rfl (by rfl) T.enumerate_ (pa_cons (pv 1) pa_nil)) (g_tup (K := K) (n := 2) rfl (by rfl) (pgs_cons (pg_name (i := 2) sc_by_lists.nd rfl (Or.inl rfl)) (pgs_cons (pg_name (i := 3) sc_by_lists.nd rfl (Or.inl rfl)) pgs_nil))) (pss_one (ps_if (pt_not (pt_val (pe_c c_is_list hr (by decide) (by rfl) (pa_cons (pv 0) (pa_cons (pv 3) pa_nil))))) (pss_one ps_never) pss_nil)))
    (pss_one (ps_ret (pe_mk c_ch_init hr (by decide) (by rfl) (pa_cons (pv 0) (pa_cons (pe_callTy (c_tup (K := K) rfl) (by rfl) T.tuple_ boot_tuple (pa_cons (pe_lc (own := [("some", 4)]) rfl sc_by_lists.nd (i_seq (K := K) rfl (pe_c c_all_sets hr (by decide) (by rfl) (pa_cons (pv 0) pa_nil))) (blkOk_by (own := [("some", 4)]) (N := N_by_lists) (sc := defScope s_by_lists) (by decide +kernel)) (fun _ _ _ _ _ => (pg_name (i := 4) sc_by_lists.nd rfl (Or.inl rfl))) (fun _ _ _ _ _ => pts_nil) (fun _ _ _ _ _ => (pe_c c_firsts hr (by decide) (by rfl) (pa_cons (pv 1) (pa_cons (pv 4) pa_nil))))) pa_nil)) pa_nil)))))))), fun x hd => ?_⟩) m (fun _ _ _ _ _ _ us hl => match us, hl with | [_, _], _ => rfl)
  obtain ⟨n, rows⟩ := x
  have hd : ListsOk n rows := hd
  have al := allS_len hd.n6
  have v1 : ∀ {Γ : Gm}, Γ[1]? = some (some (dtT C (setsD rows))) → Jd Γ (tVar 1) (dt (setsD rows)) := fun {Γ} e => Jd.imp (jd_var e) fun v H p => p.1
  refine ⟨[], False, js_seq (js_guard (jt_not (jt_B (jd_isTup (v1 rfl) jd_ty)))) fun _ => js_seq (js_for (xs := rows.zipIdx) (bind := fun p Γ => (Γ.set 2 (some (dt (.int (p.2 : Int))))).set 3 (some (dt (sD p.1)))) (Γs := fun i => [some (dt (.int n)), some (dtT C (setsD rows)), none, none, none]) (C := fun _ => True) (JiT.ji (jt_enum (D := sD) (v1 rfl) fun s _ => noL_sD s)) (tg_pair (A := fun p : List Int × Nat => .int (p.2 : Int)) (B := fun p => sD p.1) 2 3) trivial (fun i p hp _ => ?_)) fun _ =>
    js_ret (jd_mk (c := chL n rows) (ja_cons (jd_var rfl) (ja_cons (jd_tupOf (jd_of_jf (Jf.eq (jf_lc (xs := allS n) (bind := fun s Γ => Γ.set 4 (some (dt (sD s)))) (p := fun _ => true) (q := fun s => sD (firstsL rows s)) (ji_tup (D := sD) (jd_call (S := sg_all_sets C) n hd.n6 (ja_cons (jd_var rfl) ja_nil))) (tg_name 4) (fun s hs => jt_yes) (fun s hs _ => jd_call (S := sg_firsts C) (rows, s) hd.few (ja_cons (v1 rfl) (ja_cons (jd_var rfl) ja_nil))) (by omega) (fun s _ _ => noL_sD _)) ?_))) ja_nil)) (fun σ H ty => ?_) ⟨hd.n1, hd.n6⟩ (chL_ok n rows)), fun z => z.elim⟩
  · rw [List.getElem?_zipIdx] at hp
    obtain ⟨row, hr, rfl⟩ := Option.map_eq_some_iff.mp hp
    have mr := List.mem_of_getElem? hr
    exact js_weak (js_guard (Jt.eq (jt_not (jt_B (jd_call (S := sg_is_list C) (n, row) ⟨hd.nd row mr, hd.bd row mr, hd.len row mr⟩ (ja_cons (jd_var rfl) (ja_cons (jd_var rfl) ja_nil))))) rfl)) ⟨rfl, rfl, trivial⟩
  · rw [List.filter_eq_self.mpr (fun _ _ => rfl), List.map_map]
    rfl
  · obtain ⟨v, _, p⟩ := ty.at_ 1 (dtT C (setsD rows)) rfl
    exact p.2
end Ost
set_option Elab.async false
set_option linter.all false
set_option maxRecDepth 100000
set_option maxHeartbeats 4000000
/-! K11: sorted(sets, key=lambda some: (len(some), some)). -/
namespace Ost
open PySem PySem.Spec PyProof.Rows L2
open C8 (Cal pe_c Mak pe_mk Met pe_gc)
open PySem.W (EachIs AllAlike Sortable dataLe alike alikeAll KeyPure kla_obj kla_fn)

/-- what the lambda's names must be -/
structure OneLen (sc : Scope) : Prop where
  kind : sc.kind = .function
  co : sc.isCoroutine = false
  gen : sc.isGenerator = false
  cell : ∀ y ∈ sc.names, y.2 ≠ .cell
  free : ∀ y ∈ sc.names, y.2 ≠ .free
  loc : sc.names.lookup ("some" : PySem.Str) = some .local
  gl : sc.names.lookup ("len" : PySem.Str) = some .globalImplicit
def lenBody (p1 p2 p3 p4 p5 : Pos) (kk : Nat) : Expr := .Tuple [.Call (.Name "len" p1) [.Name "some" p2] [] p3, .Name "some" p4] kk p5
theorem lam_len {prog : Program} {w : World} {A : Around} {sh : Shared} {f c' t : Addr} {its : List Value} {qual : PySem.Str} {params : Arguments} {sc : Scope} {pm ctv : Value} {p1 p2 p3 p4 p5 : Pos} {kk : Nat} {mg mb : PySem.Str → Option Value} {d : PyData}
    (dep : A.depth < recursionLimit) (hf : sh.heap.get? f = some (kla_obj "<lambda>" qual params (lenBody p1 p2 p3 p4 p5 kk) sc [] pm c' ctv)) (hc : sh.heap.CodeRec (Value.ref c') qual) (nl : sh.heap.NoLimit) (hg : sh.heap.Ns mainGlobals mg) (m0 : mg "len" = none)
    (hb : sh.heap.Ns builtinsNs mb) (m1 : mb "len" = some (.builtin "len")) (S : OneLen sc) (bind : bindArgs (kla_fn "<lambda>" qual params (lenBody p1 p2 p3 p4 p5 kk) sc [] pm (.ref c') ctv) ⟨[.ref t], []⟩ = pure [(("some" : PySem.Str), Value.ref t)])
    (pt : IsTup sh.heap t its.toArray) (hz : its.length ≤ 1000) (rd : Reads sh.heap (.ref t) d []) :
    wpAny (model prog w) A (call (Value.ref f) [Value.ref t]) (KeyPure (.tuple [.int its.length, d]) sh) (fun _ _ => False) sh := by
  refine wpAny_call (codeAny_mono (R := fun r sn => match r with | .ok (.ret u) => KeyPure (.tuple [.int its.length, d]) sh u sn | _ => False) ?_ fun r sn hq => ?_)
  · refine PySem.W.kla_callFunE dep hf rfl S.co S.gen rfl hc ?_
    rw [bind]
    refine wpAny_pure (wpAny_newFunctionEnv S.cell (fun y hy => by rw [List.mem_singleton.mp hy]; exact S.loc) (fun h1 hns hsb => ⟨nl.fresh _ hsb, ?_⟩) S.kind)
    have kp : ∀ b o, sh.heap.get? b = some o → h1.get? b = some o := fun b o e => hsb.extBut b o (Nat.ne_of_lt (Heap.lt_size e)) (Heap.get?_push_of_some _ e)
    refine PySem.W.kla_codeExpr ?_
    have e0 : ∀ {sx : Shared} {Q : Value → Shared → Prop} {E : Value → Shared → Prop} {B : Around} {pp : Pos}, sx.heap = h1 → Q (.ref t) sx → wpAny (model prog w) B (eval (.Name "some" pp) (newEnv sc sh.heap.objs.size mainGlobals [] (qual ++ ".<locals>.") (some f) (.ref c') none builtinsNs)) Q E sx := fun {sx Q E B pp} ex q =>
      wpAny_Name (wpAny_loadName_local S.kind S.loc (by rw [ex]; exact hns) rfl q) (by decide)
    refine wpAny_Tuple_spliced ?_
    show wpAny _ _ (spliced ((false, eval (.Call (.Name "len" p1) [.Name "some" p2] [] p3) _) :: (false, eval (.Name "some" p4) _) :: [])) _ _ _
    refine Calls.spliced_cons (Call_ (Calls.Name_function_global S.kind S.gl (Calls.loadGlobal_builtin (hg.keeps kp) m0 (hb.keeps kp) m1 ?_)) rfl)
    refine PyProof.Rows.callWith_builtin1 (Calls.spliced_cons (e0 rfl (Calls.spliced_nil ?_))) rfl rfl
    have pt1 : IsTup h1 t its.toArray := by
      obtain ⟨o, q1, q2⟩ := pt
      exact ⟨o, kp _ _ q1, q2⟩
    refine len_tuple pt1 (by simp only [List.size_toArray]; omega) (Calls.spliced_cons (e0 rfl (Calls.spliced_nil ⟨by show 2 ≤ sizeLine; decide, ?_⟩)))
    refine ⟨_, _, rfl, fun b o e => Heap.get?_push_of_some _ (kp b o e), ?_⟩
    refine .tuple (as := [] ++ ([] ++ [])) (Heap.get?_push_size _ rfl) rfl rfl (.cons ?_ (.cons (PyProof.Rows.Reads.keeps (fun b o e => Heap.get?_push_of_some _ (kp b o e)) rd) .nil))
    rw [List.size_toArray]
    exact .int _ _
  · cases r with
    | error e => exact hq
    | ok fl =>
      cases fl with
      | ret u => exact hq
      | next => exact hq
      | brk => exact hq
      | cont => exact hq

/-! ### the lambda is made -/
section
variable {X : Cx} {pn : List (Addr × Obj)} {σ : L2.St} {H : Hp} {sh : Shared}
theorem lam_made {c P : Addr} {params : Arguments} {body : Expr} {sc : Scope} {pos : Pos} {E : Value → Shared → Prop} {Q : Value → Shared → Prop} (I : Inv X pn σ H sh) (TB : LamX.TabB X.base X.mg c P) (hcode : X.env.code = .ref c) (hq : X.env.qual ++ "<lambda>" = lamQ) (tab : LamX.TabS H P lamQ)
    (hdef : defaultsOf params X.env = ([], [])) (hcl : cloFrom X.env.cells sc.names [] = []) (hfree : ∀ y ∈ sc.names, y.2 ≠ .free)
    (k : ∀ (f c' : Addr) (pm ctv : Value) (Hn : Hp) (sn : Shared), Inv X pn σ Hn sn → Same H Hn → sn.heap.get? f = some (kla_obj "<lambda>" lamQ params body sc [] pm c' ctv) → Hn c' = some (LamX.CodeO c' lamQ) → Q (.ref f) sn) :
    wpAny (model X.prog X.w) X.A (eval (.Lambda params body sc pos) X.env) Q E sh := by
  obtain ⟨ps, hP, trip, among⟩ := id tab
  refine PySem.W.kla_eval hdef ?_
  rw [hq]
  have bP : sh.heap.BuiltinsAt X.mg P := TB.bm.keeps I.bk
  have atP : sh.heap.get? P = some { cls := .none, data := .fields ps } := I.hok P _ hP
  have clo := closure_ok (env := X.env) (scope := sc) fun y hy e => absurd e (hfree y hy)
  rw [hcl] at clo
  cases hc : codeAmong pos ps.toList with
  | none =>
    refine PySem.W.kla_makeFunction (mg := X.mg) (c := c) (P := P) (ps := ps) clo I.ok.glob (I.mod.glob.keeps I.bk) hcode (TB.code.keeps I.bk) atP trip hc TB.gP bP fun c' ctv hn tk kx ge lt rec tb => ?_
    obtain ⟨c2, oc, vs, t, e2, hoc, hd, hv⟩ := rec
    cases e2
    have sz : sh.heap.objs.size ≤ hn.objs.size := Nat.le_trans ge (Nat.le_of_lt lt)
    have nC : H c' = none := I.hok.fresh ge
    have I2 := LamX.inv_table (t' := tk) (more := #[rawInt pos.line, rawInt pos.col, .ref c']) (h' := hn.push (kla_obj "<lambda>" lamQ params body sc [] ((X.mg "__name__").getD .none) c' ctv)) I hP
      (fun b o hb e => Heap.get?_push_of_some _ (kx b o hb e)) (Heap.get?_push_of_some _ tb) ge ⟨oc, vs, t, Heap.get?_push_of_some _ hoc, hd, hv⟩
    have Pc : P ≠ c' := ne_of_none hP nC
    have oth : ∀ b, b ≠ P → b ≠ c' → upd (upd H P (.tbl (ps ++ #[rawInt pos.line, rawInt pos.col, .ref c']))) c' (LamX.CodeO c' lamQ) b = H b := fun b h1 h2 => by rw [upd_ne h2, upd_ne h1]
    refine k hn.objs.size c' _ ctv _ _ I2 ⟨fun b o e n => ?_, fun b qs e => ?_, fun P2 t2 => ?_⟩ (Heap.get?_push_size _ rfl) upd_same
    · have b1 : b ≠ P := fun z => by
        rw [z, hP] at e
        cases e
        cases n
      rw [oth b b1 (ne_of_none e nC)]
      exact e
    · by_cases b1 : b = P
      · subst b1
        rw [hP] at e
        cases e
        exact ⟨_, by rw [upd_ne Pc, upd_same]⟩
      · exact ⟨#[], by rw [oth b b1 (ne_of_none e nC), e]; simp⟩
    · have codes : ∀ d, H d = some (LamX.CodeO d lamQ) → upd (upd H P (.tbl (ps ++ #[rawInt pos.line, rawInt pos.col, .ref c']))) c' (LamX.CodeO c' lamQ) d = some (LamX.CodeO d lamQ) := fun d e => by
        have d1 : d ≠ P := fun z => by
          rw [z, hP] at e
          cases e
        rw [oth d d1 (ne_of_none e nC)]
        exact e
      by_cases b1 : P2 = P
      · subst b1
        have eL : (ps ++ #[rawInt pos.line, rawInt pos.col, .ref c']).toList = ps.toList ++ [rawInt pos.line, rawInt pos.col, .ref c'] := by simp
        refine ⟨_, by rw [upd_ne Pc, upd_same], by rw [eL]; exact PySem.TriplesOk_snoc _ _ _ _ trip, fun p2 cv hcv => ?_⟩
        rw [eL] at hcv
        rcases LamX.among_app _ trip hcv with z | z
        · obtain ⟨d, e1, e2⟩ := among p2 cv z
          exact ⟨d, e1, codes d e2⟩
        · exact ⟨c', z, upd_same⟩
      · obtain ⟨qs, a1, a2, a3⟩ := t2
        refine ⟨qs, by rw [oth P2 b1 (ne_of_none a1 nC)]; exact a1, a2, fun p2 cv hcv => ?_⟩
        obtain ⟨d, e1, e2⟩ := a3 p2 cv hcv
        exact ⟨d, e1, codes d e2⟩
  | some cv =>
    obtain ⟨c', e, hco⟩ := among pos cv hc
    subst e
    refine PySem.W.kla_makeFunctionHit (mg := X.mg) (c := c) (P := P) (ps := ps) clo I.ok.glob (I.mod.glob.keeps I.bk) hcode (TB.code.keeps I.bk) atP trip hc bP fun ctv hn tk kx sz => ?_
    have I2 : Inv X pn σ H { sh with heap := hn.push (kla_obj "<lambda>" lamQ params body sc [] ((X.mg "__name__").getD .none) c' ctv), toks := tk } := I.kept fun b o e => Heap.get?_push_of_some _ (kx b o e)
    exact k hn.objs.size c' _ ctv H _ I2 (Same.refl H) (Heap.get?_push_size _ rfl) hco
end
/-! ### the order: fewer ahead of more, then by the first that differs -/
def keyS (s : List Int) : PyData := .tuple [.int s.length, sD s]
def byS (L : List (List Int)) : List (List Int) := L.mergeSort (dataLe false keyS)
theorem reads_ints {H : Hp} {h : Heap} : ∀ {ns : List Int} {its : List Value}, Vals (ns.map V.int) its → ReadsAll h its (ns.map .int) []
  | [], its, r => by cases r; exact .nil
  | n :: ns, its, r => by
    cases r with
    | cons r1 r2 =>
      obtain ⟨t, rfl⟩ := r1
      exact .cons (as := []) (bs := []) (.int n t) (reads_ints (H := H) r2)
theorem each_sets {H : Hp} : ∀ {L : List (List Int)} {us : List V} {its : List Value}, TpAll H (L.map sD) us → Vals us its → EachIs (fun v s => ∃ x, RelV x v ∧ Tp H (sD s) x) its L
  | [], us, its, h, r => by
    have : us = [] := ta_nil.mp h
    subst this
    cases r
    exact .nil
  | d :: ds, us, its, h, r => by
    obtain ⟨v, vs, rfl, h1, h2⟩ := ta_cons.mp h
    cases r with
    | cons r1 r2 => exact .cons ⟨v, r1, h1⟩ (each_sets h2 r2)
theorem sets_each {H : Hp} : ∀ {L : List (List Int)} {its : List Value}, EachIs (fun v s => ∃ x, RelV x v ∧ Tp H (sD s) x) its L → ∃ us, Vals us its ∧ TpAll H (L.map sD) us
  | [], its, h => by cases h; exact ⟨[], .nil, TpAll.nil⟩
  | d :: ds, its, h => by
    cases h with
    | cons h1 h2 =>
      obtain ⟨x, r, t⟩ := h1
      obtain ⟨us, r2, t2⟩ := sets_each h2
      exact ⟨x :: us, .cons r r2, TpAll.cons t t2⟩
theorem alike_ints : ∀ (s t : List Int), alikeAll (s.map .int) (t.map .int) = true
  | [], _ => by simp [alikeAll]
  | _ :: _, [] => by simp [alikeAll]
  | a :: s, b :: t => by
    rw [List.map_cons, List.map_cons, alikeAll, alike_ints s t]
    simp [alike]
theorem keyS_alike (L : List (List Int)) : AllAlike (L.map keyS) := AllAlike.of fun s t => by
  simp only [keyS, alike, alikeAll, alike_ints, Bool.and_self]
theorem keyS_depth (s : List Int) : (keyS s).depth ≤ 3 := by
  have h1 := (sh_sD (k := 0) s).2
  have : Sh 2 (keyS s) := sh_tup fun d hd => by
    simp only [List.mem_cons, List.not_mem_nil, or_false] at hd
    rcases hd with rfl | rfl
    · exact sh_int _
    · exact sh_sD s
  have := this.2
  omega
def tSortKey (P : Addr) (i : Nat) : TE := fun σ H Q => LamX.TabS H P lamQ ∧ ∃ (a : Addr) (us : List V) (L : List (List Int)), σ[i]? = some (some (.ref a)) ∧ H a = some (.lst us) ∧ TpAll H (L.map sD) us ∧ L.length ≤ 1000 ∧ (∀ s ∈ L, s.length ≤ 1000) ∧
  ∀ Hn l un, Same H Hn → Hn l = none → TpAll Hn ((byS L).map sD) un → Q (.ref l) (upd Hn l (.lst un))
theorem pe_sortKey {X : Cx} {i : Nat} {x : PySem.Str} {c P : Addr} {params : Arguments} {sc : Scope} {p p0 p1 p2 p3 p4 p5 lp kp pos : Pos} {kk : Nat} (TB : LamX.TabB X.base X.mg c P) (hcode : X.env.code = .ref c) (hq : X.env.qual ++ "<lambda>" = lamQ) (hN : X.N[i]? = some x) (hv : Vis X.env.scope x)
    (hg : Gl X "sorted") (hm : X.mg "sorted" = none) (hlen : X.mg "len" = none) (hr : Room 0 X.A) (S : OneLen sc) (hdef : defaultsOf params X.env = ([], [])) (hcl : cloFrom X.env.cells sc.names [] = [])
    (bind : ∀ (pm cv ctv : Value) (t : Addr), bindArgs (kla_fn "<lambda>" lamQ params (lenBody p1 p2 p3 p4 p5 kk) sc [] pm cv ctv) ⟨[.ref t], []⟩ = pure [(("some" : PySem.Str), Value.ref t)]) (hd : (x == ("__debug__" : Str)) = false := by decide) (hcd : (x == ("__classdict__" : Str)) = false := by decide) :
    PE X (.Call (.Name "sorted" p) [.Name x p0] [⟨some "key", .Lambda params (lenBody p1 p2 p3 p4 p5 kk) sc lp, kp⟩] pos) (tSortKey P i) := by
  refine ⟨fun pn s0 σ H Q I0 h => ?_⟩
  obtain ⟨tab, a, us, L, hs, ha, hu, hL, hsl, q⟩ := h
  refine wpAny_Call_Name_kw (ld_blt I0 hg hm boot_sorted ?_)
  refine PyProof.Rows.callWith_kw (thn ((pa_cons (pe_var (pos := p0) hN hv hd hcd) pa_nil).run pos pn s0 σ H (fun vs H1 => vs = [.ref a] ∧ H1 = H) I0 ⟨.ref a, hs, rfl, rfl⟩) fun ws s1 ⟨vs, H1, I1, r1, e1, e2⟩ => ?_) rfl rfl rfl rfl
  subst e1
  rw [e2] at I1
  obtain ⟨u, rfl, ru⟩ := vals1 r1
  cases ru
  refine wpAny_bind (show wpAny _ _ (eval (.Lambda params (lenBody p1 p2 p3 p4 p5 kk) sc lp) X.env >>= fun v => standAt pos >>= fun _ => pure v) _ _ _ from wpAny_bind (lam_made I1 TB hcode hq tab hdef hcl S.free fun f c' pm ctv H2 s2 I2 sm hf hco => wpAny_bind (wpAny_standAt (wpAny_pure ?_))))
  refine wpAny_bind (wpAny_holding (wpAny_pure (wpAny_pure ?_)))
  obtain ⟨its, rv, hl, hz⟩ := I2.list (SqL.of (sm.get ha))
  have e := each_sets (TpAll.mono sm _ _ hu) rv
  have lens : us.length = L.length := by rw [hu.length, List.length_map]
  refine PySem.W.sorted_key_data (b := false) (R := fun v s => ∃ x, RelV x v ∧ Tp H2 (sD s) x) (bs := L) keyS hl.isList e (keyS_alike L) (Sortable.tuples fun s => ⟨_, _, rfl⟩) (by have := small1000 hL; omega) (fun s _ => by have := keyS_depth s; have := hr.un; show X.A.units + 2 + _ < cLine; omega) (PyProof.Rows.ksk_s1 _ _) (fun _ => PyProof.Rows.ksk_l1 _ _) (fun _ => PyProof.Rows.ksk_t1 _ _) (fun v s ⟨y, ry, ty⟩ ms h tk kp => ?_) fun out c2 hn tk kp fr hD ho eo => ?_
  · obtain ⟨t, rfl, ht⟩ := tp_sD.mp ty
    cases ry
    obtain ⟨jts, rj, pt, hj⟩ := I2.tuple (SqT.of ht)
    have lj := rj.length
    rw [List.length_map] at lj
    obtain ⟨⟨oc, vs, tt, hoc, hdc, hvc⟩, _, _⟩ := I2.hok c' _ hco
    obtain ⟨mb, b1, b2⟩ := I2.mod.blt
    have kb : ∀ b o, X.base.get? b = some o → h.get? b = some o := fun b o z => kp b o (I2.bk b o z)
    have ptk : IsTup h t jts.toArray := by
      obtain ⟨o, z1, z2⟩ := pt
      exact ⟨o, kp _ _ z1, z2⟩
    have := lam_len (prog := X.prog) (w := X.w) (A := X.A.in1.in1) (sh := { s2 with heap := h, toks := tk }) (its := jts) (d := sD s) (mg := X.mg) (mb := mb) hr.depth (kp _ _ hf) ⟨c', oc, vs, tt, rfl, kp _ _ hoc, hdc, hvc⟩ (I2.mod.nolimit.keeps kb) (I2.mod.glob.keeps kb) hlen (b1.keeps kb) ((b2 _ (by decide)).trans boot_len) S (bind _ _ _ _) ptk (by have := hsl s ms; omega) (by
      obtain ⟨o, z1, z2, n, z3⟩ := ptk
      exact .tuple z1 z2 z3 (reads_ints (H := H2) rj))
    rw [← lj] at this
    exact this
  · obtain ⟨un, r2, t2⟩ := sets_each eo
    have hf2 : H2 (s2.heap.objs.size + 1) = none := I2.hok.fresh (Nat.le_succ _)
    refine ⟨.ref (s2.heap.objs.size + 1), upd H2 (s2.heap.objs.size + 1) (.lst un), I2.laid (t' := tk) kp (Nat.le_succ _) ⟨?_, out, c2, r2, hD⟩, rfl, q H2 _ un sm hf2 t2⟩
    have := small1000 hL
    rw [r2.length, ho]
    omega
end Ost
set_option Elab.async false
set_option linter.all false
set_option maxRecDepth 100000
set_option maxHeartbeats 4000000
/-! M2: sorted lists of sets. -/
namespace Ost
open PySem PySem.Spec PyProof.Rows L2
open PySem.W (dataLe dataLt keyToks keyToksAll)
open PyProof.Rows (itemOrd)

section
variable {α : Type} {le : α → α → Bool}
/-- two sorted rows of the same things are the same -/
theorem srt_uniq (anti : ∀ a b, le a b = true → le b a = true → a = b) : ∀ {xs ys : List α}, xs.Perm ys → xs.Pairwise (fun a b => le a b = true) → ys.Pairwise (fun a b => le a b = true) → xs = ys
  | [], ys, h, _, _ => h.symm.eq_nil.symm
  | x :: xs, [], h, _, _ => absurd h.eq_nil (by simp)
  | x :: xs, y :: ys, h, hx, hy => by
    obtain ⟨h1, h2⟩ := List.pairwise_cons.mp hx
    obtain ⟨h3, h4⟩ := List.pairwise_cons.mp hy
    have e : x = y := by
      rcases List.mem_cons.mp (h.subset (List.mem_cons_self ..)) with a | a
      · exact a
      · rcases List.mem_cons.mp (h.symm.subset (List.mem_cons_self ..)) with b | b
        · exact b.symm
        · exact anti x y (h1 y b) (h3 x a)
    subst e
    rw [srt_uniq anti (List.Perm.cons_inv h) h2 h4]
end
/-- a sort's order, of a key that tells -/
theorem dataLe_lt {β : Type} (k : β → PyData) (a b : β) : dataLe false k a b = !dataLt (k b) (k a) := by rw [PySem.W.dataLe_eq]; rfl
theorem dataLe_trans {β : Type} (k : β → PyData) (a b c : β) (h1 : dataLe false k a b = true) (h2 : dataLe false k b c = true) : dataLe false k a c = true := by
  rw [dataLe_lt] at *
  simp only [Bool.not_eq_true'] at *
  cases h : dataLt (k c) (k a) with
  | false => rfl
  | true =>
    rcases PyProof.Rows.lex_negTrans (O := itemOrd) (keyToks (k c)) (keyToks (k b)) (keyToks (k a)) h with z | z
    · exact absurd z (by rw [show PyProof.Rows.lexLt itemOrd (keyToks (k c)) (keyToks (k b)) = false from h2]; exact Bool.false_ne_true)
    · exact absurd z (by rw [show PyProof.Rows.lexLt itemOrd (keyToks (k b)) (keyToks (k a)) = false from h1]; exact Bool.false_ne_true)
theorem dataLe_total {β : Type} (k : β → PyData) (a b : β) : (dataLe false k a b || dataLe false k b a) = true := by
  rw [dataLe_lt, dataLe_lt]
  cases h : dataLt (k b) (k a) with
  | false => rfl
  | true =>
    cases h2 : dataLt (k a) (k b) with
    | false => rfl
    | true =>
      have := PyProof.Rows.lex_trans (O := itemOrd) _ _ _ h h2
      rw [PyProof.Rows.lex_irrefl] at this
      cases this
theorem dataLe_anti {β : Type} (k : β → PyData) (inj : ∀ a b, keyToks (k a) = keyToks (k b) → a = b) (a b : β) (h1 : dataLe false k a b = true) (h2 : dataLe false k b a = true) : a = b := by
  rw [dataLe_lt] at *
  simp only [Bool.not_eq_true'] at *
  exact inj a b (PyProof.Rows.lex_total (O := itemOrd) _ _ h2 h1)
theorem srt_le {β : Type} (k : β → PyData) (L : List β) : (L.mergeSort (dataLe false k)).Pairwise (fun a b => dataLe false k a b = true) := List.pairwise_mergeSort (dataLe_trans k) (dataLe_total k) L
/-! ### keys that tell -/
theorem toks_ints : ∀ (s t : List Int) (l m : List (Int ⊕ List Nat)), keyToksAll (s.map .int) ++ l = keyToksAll (t.map .int) ++ m → s = t ∧ l = m
  | [], [], l, m, h => by
    simp only [List.map_nil, keyToksAll, List.cons_append, List.nil_append, List.cons.injEq, true_and] at h
    exact ⟨rfl, h⟩
  | [], y :: t, l, m, h => by simp [keyToksAll] at h
  | x :: s, [], l, m, h => by simp [keyToksAll] at h
  | x :: s, y :: t, l, m, h => by
    simp only [List.map_cons, keyToksAll, keyToks, List.cons_append, List.nil_append, List.cons.injEq, true_and, Sum.inl.injEq] at h
    obtain ⟨h1, h2⟩ := toks_ints s t l m h.2
    exact ⟨by rw [h.1, h1], h2⟩
theorem toks_sD {s t : List Int} (h : keyToks (sD s) = keyToks (sD t)) : s = t := by
  simp only [keyToks] at h
  exact (toks_ints s t [] [] (by simpa using h)).1
theorem toks_keyS {s t : List Int} (h : keyToks (keyS s) = keyToks (keyS t)) : s = t := by
  simp only [keyS, keyToks, keyToksAll, List.cons_append, List.nil_append, List.cons.injEq, true_and] at h
  exact (toks_ints s t _ _ h.2).1
theorem perm_of {α : Type} [DecidableEq α] : ∀ {xs ys : List α}, xs.Nodup → ys.Nodup → (∀ a, a ∈ xs ↔ a ∈ ys) → xs.Perm ys := fun h1 h2 h => (List.perm_ext_iff_of_nodup h1 h2).mpr h
/-! ### byS -/
theorem mem_byS {L : List (List Int)} {s : List Int} : s ∈ byS L ↔ s ∈ L := (List.mergeSort_perm L _).mem_iff
theorem byS_nodup {L : List (List Int)} (h : L.Nodup) : (byS L).Nodup := (List.mergeSort_perm L _).nodup_iff.mpr h
theorem byS_len (L : List (List Int)) : (byS L).length = L.length := List.length_mergeSort L
theorem byS_uniq {L M : List (List Int)} (h1 : L.Nodup) (h2 : M.Nodup) (h : ∀ s, s ∈ L ↔ s ∈ M) : byS L = byS M :=
  srt_uniq (dataLe_anti keyS fun _ _ => toks_keyS) (((List.mergeSort_perm L _).trans (perm_of h1 h2 h)).trans (List.mergeSort_perm M _).symm) (srt_le keyS L) (srt_le keyS M)
theorem byS_filter (p : List Int → Bool) (L : List (List Int)) : (byS L).filter p = byS (L.filter p) :=
  srt_uniq (dataLe_anti keyS fun _ _ => toks_keyS) (((List.mergeSort_perm L _).filter p).trans (List.mergeSort_perm _ _).symm) ((srt_le keyS L).filter p) (srt_le keyS _)
/-! ### what presses come to -/
inductive Reach (a b : Ch) (st p : List Int) : List Int → Prop
  | refl : Reach a b st p p
  | step {s : List Int} {o : Int} {t : List Int} : Reach a b st p s → (o, t) ∈ movesOf a b st s → Reach a b st p t
theorem moves_at {a b : Ch} {st s : List Int} {x : Int × List Int} : x ∈ movesOf a b st s ↔ x.1 ∈ wished a b st s ∧ x.2 = pressB a b s x.1 := by
  unfold movesOf
  rw [List.mem_map]
  constructor
  · rintro ⟨o, ho, rfl⟩; exact ⟨ho, rfl⟩
  · rintro ⟨h1, h2⟩; exact ⟨x.1, h1, by rw [← h2]⟩
theorem Reach.trans {a b : Ch} {st p s t : List Int} (h : Reach a b st p s) (h2 : Reach a b st s t) : Reach a b st p t := by
  induction h2 with
  | refl => exact h
  | step _ m ih => exact ih.step m
open Classical in
/-- the sets that presses come to, listed -/
noncomputable def reachL (a b : Ch) (st p : List Int) : List (List Int) := (allS a.n).filter fun s => decide (Reach a b st p s)
end Ost
set_option Elab.async false
set_option linter.all false
set_option maxRecDepth 100000
set_option maxHeartbeats 1000000
/-! D7: graphs of presses. -/
namespace Ost
open PySem PySem.Spec PyProof.Rows L2
open C8 (Cal pe_c Mak pe_mk Met pe_gc)

abbrev N_press_in_order : List Str := ["sets"]
theorem sc_press_in_order : FnScope N_press_in_order ["sets"] (defScope s_press_in_order) := ⟨rfl, rfl, rfl, by decide +kernel, rfl, by decide +kernel, by decide +kernel⟩
def lsT (C : Cn) (L : List (List Int)) : VT := dtT C (.list (L.map sD))
def sg_press_in_order (C : Cn) : Sg (List (List Int)) := ⟨fun L => L.length ≤ 1000 ∧ ∀ s ∈ L, s.length ≤ 1000, fun L => [lsT C L], fun L => dt (setsD (byS L))⟩
def sp_press_in_order (C : Cn) : Sp := (sg_press_in_order C).sp
theorem ok_press_in_order {P : Program} {w : World} {K : PySem.W.Frag} {mg : Str → Option Value} {base : Heap} {C : Cn} {f c : Addr} {fd : FuncData} (F : FunD K "press_in_order" "press_in_order" (defArgs s_press_in_order) (defBody s_press_in_order) (defScope s_press_in_order) [] [] f fd) (m : mg "press_in_order" = some (.ref f)) (T : Top K mg C) (hcd : fd.code = .ref c) (TB : LamX.TabB base mg c C.P) :
    Cal P w K mg base 1 "press_in_order" (sp_press_in_order C) [] := by
  refine cal_of (k := 1) (ps := ["sets"]) F ?_ m (fun _ _ _ _ _ _ us hl => match us, hl with | [_], _ => rfl)
  obtain ⟨oc, od, dV, kV, doc, pm, an, cdv, ct, osl, rfl, lk, hcode, _, _⟩ := F.ex
  have hcd : cdv = .ref c := hcd
  subst hcd
  refine fn_of (k := 0) lk hcode sc_press_in_order (fun vs H Q E h => ?_) (fun A outer s H vs Q E hr h => ⟨_, PSs.nox (pss_one (ps_ret (pe_callTy (c_tup (K := K) rfl) (by rfl) T.tuple_ boot_tuple (pa_cons (pe_sortKey (i := 0) (c := c) (P := C.P) TB rfl rfl rfl (Or.inl rfl) (by rfl) T.sorted_ T.len_ hr ⟨rfl, rfl, rfl, by decide +kernel, by decide +kernel, by rfl, by rfl⟩ rfl rfl (fun _ _ _ _ => rfl)) pa_nil)))), ?_⟩)
  · obtain ⟨L, _, ha, _⟩ := h
    rw [ha.length]
    rfl
  · obtain ⟨L, ⟨d1, d2⟩, ha, hq⟩ := h
    obtain ⟨v, rfl, pv⟩ := fits1 ha
    obtain ⟨a, us, rfl, h1, h2⟩ := of_lst pv.1
    refine ⟨pv.2, a, us, L, rfl, h1, h2, d1, d2, fun Hn l un sm hl hu => ?_⟩
    refine ⟨l, un, rfl, .inl ⟨SqL.of upd_same, fun p hp => ?_⟩⟩
    have e1 : Same Hn (upd Hn l (.lst un)) := same_upd hl
    have e2 : Same (upd Hn l (.lst un)) (upd (upd Hn l (.lst un)) p (.tup un)) := same_upd hp
    exact hq _ _ ((sm.trans e1).trans e2) (dt_tup upd_same (TpAll.mono (e1.trans e2) _ _ hu))
end Ost
set_option Elab.async false
set_option linter.all false
set_option maxRecDepth 100000
set_option maxHeartbeats 1000000
/-! M3: the first chain, as it is searched. Plain Lean. -/
namespace Ost
/-! ### a chain's end -/
def endOf (a b : Ch) (st : List Int) : List Int → List Int → Option (List Int)
  | s, [] => some s
  | s, o :: r => if (wished a b st s).contains o = true then endOf a b st (pressB a b s o) r else none
theorem endOf_cons (a b : Ch) (st s : List Int) (o : Int) (r : List Int) : endOf a b st s (o :: r) = if (wished a b st s).contains o = true then endOf a b st (pressB a b s o) r else none := rfl
theorem endOf_app {a b : Ch} {st : List Int} : ∀ (l r s : List Int), endOf a b st s (l ++ r) = (endOf a b st s l).bind fun t => endOf a b st t r
  | [], r, s => rfl
  | o :: l, r, s => by
    rw [List.cons_append, endOf_cons, endOf_cons]
    by_cases h : (wished a b st s).contains o = true
    · rw [if_pos h, if_pos h]
      exact endOf_app l r _
    · rw [if_neg h, if_neg h]
      rfl
theorem endOf_reach {a b : Ch} {st : List Int} : ∀ {l s t : List Int}, endOf a b st s l = some t → Reach a b st s t
  | [], s, t, h => by cases h; exact .refl
  | o :: l, s, t, h => by
    rw [endOf_cons] at h
    by_cases hc : (wished a b st s).contains o = true
    · rw [if_pos hc] at h
      exact (Reach.refl.step (moves_at.mpr ⟨by simpa using hc, rfl⟩)).trans (endOf_reach h)
    · rw [if_neg hc] at h
      cases h
theorem endOf_step {a b : Ch} {st offers p t : List Int} {i : Nat} {o : Int} (ho : offers[i]? = some o) (ht : endOf a b st p (offers.take i) = some t) : endOf a b st p (offers.take (i + 1)) = if (wished a b st t).contains o = true then some (pressB a b t o) else none := by
  rw [take_snoc ho, endOf_app, ht]
  rfl


abbrev Row := List Int × List Int
/-- one press behind a row -/
def pressIn (os : List Int) (acc : List (List Int) × List Row) (x : Int × List Int) : List (List Int) × List Row := if x.2 ∈ acc.1 then acc else (acc.1 ++ [x.2], acc.2 ++ [(os ++ [x.1], x.2)])
def rowIn (a b : Ch) (st : List Int) (acc : List (List Int) × List Row) (r : Row) : List (List Int) × List Row := (movesOf a b st r.2).foldl (pressIn r.1) acc
/-- the rows gone through: a chain, or the sets met and the rows further on -/
def scan (a b : Ch) (st : List Int) : List Row → List (List Int) × List Row → Sum (List Int) (List (List Int) × List Row)
  | [], acc => .inr acc
  | r :: rs, acc => if movesOf a b st r.2 = [] then .inl r.1 else scan a b st rs (rowIn a b st acc r)
def bfs (a b : Ch) (st : List Int) : Nat → List (List Int) → List Row → Option (List Int)
  | 0, _, _ => none
  | f + 1, met, rows => if rows = [] then none else
    match scan a b st rows (met, []) with
    | .inl os => some os
    | .inr acc => bfs a b st f acc.1 acc.2
def firstChain (a b : Ch) (st p : List Int) : Option (List Int) := bfs a b st 65 [p] [([], p)]

theorem scan_step {a b : Ch} {st : List Int} {rows : List Row} {i : Nat} {r : Row} {acc : List (List Int) × List Row} (h : rows[i]? = some r) : scan a b st (rows.drop i) acc = if movesOf a b st r.2 = [] then .inl r.1 else scan a b st (rows.drop (i + 1)) (rowIn a b st acc r) := by
  obtain ⟨hi, e⟩ := List.getElem?_eq_some_iff.mp h
  rw [List.drop_eq_getElem_cons hi, e]
  rfl

/-! ### what is kept: the rows gone through, the sets met, the rows further on -/
structure AccOk (a b : Ch) (st p : List Int) (n : Nat) (met : List (List Int)) (dn : List Row) (acc : List (List Int) × List Row) : Prop where
  nd : acc.1.Nodup
  rm : ∀ s ∈ acc.1, Reach a b st p s
  rows : ∀ r ∈ acc.2, endOf a b st p r.1 = some r.2 ∧ r.1.length = n + 1 ∧ r.2 ∈ acc.1
  len : acc.1.length = met.length + acc.2.length
  sub : ∀ s ∈ met, s ∈ acc.1
  new : ∀ s ∈ acc.1, s ∈ met ∨ s ∈ acc.2.map (·.2)
  dn : ∀ r ∈ dn, movesOf a b st r.2 ≠ [] ∧ ∀ x ∈ movesOf a b st r.2, x.2 ∈ acc.1
theorem nodup_snoc {α : Type} {xs : List α} {x : α} (h : xs.Nodup) (n : x ∉ xs) : (xs ++ [x]).Nodup := List.nodup_append.mpr ⟨h, by simp, fun y hy z hz => by rw [List.mem_singleton.mp hz]; rintro rfl; exact n hy⟩
theorem AccOk.press {a b : Ch} {st p os h : List Int} {n : Nat} {met : List (List Int)} {dn : List Row} {acc : List (List Int) × List Row} {x : Int × List Int} (A : AccOk a b st p n met dn acc) (he : endOf a b st p os = some h) (hl : os.length = n) (hx : x ∈ movesOf a b st h) :
    AccOk a b st p n met dn (pressIn os acc x) ∧ x.2 ∈ (pressIn os acc x).1 ∧ ∀ s ∈ acc.1, s ∈ (pressIn os acc x).1 := by
  unfold pressIn
  by_cases hin : x.2 ∈ acc.1
  · rw [if_pos hin]
    exact ⟨A, hin, fun s hs => hs⟩
  rw [if_neg hin]
  have up : ∀ s ∈ acc.1, s ∈ acc.1 ++ [x.2] := fun s hs => List.mem_append_left _ hs
  refine ⟨⟨nodup_snoc A.nd hin, fun s hs => ?_, fun r hr => ?_, ?_, fun s hs => up s (A.sub s hs), fun s hs => ?_, fun r hr => ⟨(A.dn r hr).1, fun y hy => up _ ((A.dn r hr).2 y hy)⟩⟩, by simp, up⟩
  · rcases List.mem_append.mp hs with z | z
    · exact A.rm s z
    · rw [List.mem_singleton.mp z]
      exact (endOf_reach he).step (o := x.1) hx
  · rcases List.mem_append.mp hr with z | z
    · exact ⟨(A.rows r z).1, (A.rows r z).2.1, up _ (A.rows r z).2.2⟩
    · rw [List.mem_singleton.mp z]
      refine ⟨?_, by rw [List.length_append, hl]; rfl, by simp⟩
      obtain ⟨h1, h2⟩ := moves_at.mp hx
      show endOf a b st p (os ++ [x.1]) = some x.2
      rw [endOf_app, he]
      show endOf a b st h [x.1] = _
      rw [endOf_cons, if_pos (by simpa using h1), h2]
      rfl
  · rw [List.length_append, List.length_append, A.len]
    simp only [List.length_cons, List.length_nil]
    omega
  · rcases List.mem_append.mp hs with z | z
    · rcases A.new s z with q | q
      · exact .inl q
      · exact .inr (by rw [List.map_append]; exact List.mem_append_left _ q)
    · rw [List.mem_singleton.mp z]
      exact .inr (by simp)
theorem AccOk.fold {a b : Ch} {st p os h : List Int} {n : Nat} {met : List (List Int)} {dn : List Row} (he : endOf a b st p os = some h) (hl : os.length = n) : ∀ (L : List (Int × List Int)) {acc : List (List Int) × List Row}, (∀ x ∈ L, x ∈ movesOf a b st h) → AccOk a b st p n met dn acc →
    AccOk a b st p n met dn (L.foldl (pressIn os) acc) ∧ (∀ x ∈ L, x.2 ∈ (L.foldl (pressIn os) acc).1) ∧ ∀ s ∈ acc.1, s ∈ (L.foldl (pressIn os) acc).1
  | [], acc, _, A => ⟨A, fun x hx => (by cases hx), fun s hs => hs⟩
  | x :: L, acc, hL, A => by
    obtain ⟨A1, h1, h2⟩ := A.press he hl (hL x (List.mem_cons_self ..))
    obtain ⟨A2, h3, h4⟩ := AccOk.fold he hl L (fun y hy => hL y (List.mem_cons_of_mem _ hy)) A1
    refine ⟨A2, fun y hy => ?_, fun s hs => h4 s (h2 s hs)⟩
    rcases List.mem_cons.mp hy with e | e
    · rw [e]; exact h4 _ h1
    · exact h3 y e
theorem AccOk.row {a b : Ch} {st p : List Int} {n : Nat} {met : List (List Int)} {dn : List Row} {acc : List (List Int) × List Row} {r : Row} (A : AccOk a b st p n met dn acc) (he : endOf a b st p r.1 = some r.2) (hl : r.1.length = n) (hm : movesOf a b st r.2 ≠ []) : AccOk a b st p n met (dn ++ [r]) (rowIn a b st acc r) := by
  obtain ⟨A2, h1, h2⟩ := AccOk.fold he hl _ (fun x hx => hx) A
  refine ⟨A2.nd, A2.rm, A2.rows, A2.len, A2.sub, A2.new, fun q hq => ?_⟩
  rcases List.mem_append.mp hq with z | z
  · exact A2.dn q z
  · rw [List.mem_singleton.mp z]; exact ⟨hm, h1⟩
/-- the state ahead of a round -/
structure Bf (a b : Ch) (st p : List Int) (f : Nat) (met : List (List Int)) (rows : List Row) : Prop where
  le : f ≤ 65
  nd : met.Nodup
  rm : ∀ s ∈ met, Reach a b st p s
  row : ∀ r ∈ rows, endOf a b st p r.1 = some r.2 ∧ r.1.length = 65 - f ∧ r.2 ∈ met
  cl : ∀ s ∈ met, s ∈ rows.map (·.2) ∨ (movesOf a b st s ≠ [] ∧ ∀ x ∈ movesOf a b st s, x.2 ∈ met)
  at_ : p ∈ met
  fuel : rows ≠ [] → 66 ≤ met.length + f
theorem Bf.start {a b : Ch} {st p : List Int} : Bf a b st p 65 [p] [([], p)] := ⟨Nat.le_refl _, by simp, fun s hs => (by rw [List.mem_singleton.mp hs]; exact .refl), fun r hr => (by rw [List.mem_singleton.mp hr]; exact ⟨rfl, rfl, by simp⟩), fun s hs => .inl (by simpa using hs), by simp, fun _ => by simp⟩
theorem Bf.acc {a b : Ch} {st p : List Int} {f : Nat} {met : List (List Int)} {rows : List Row} (B : Bf a b st p f met rows) : AccOk a b st p (65 - f) met [] (met, []) := ⟨B.nd, B.rm, fun r hr => (by cases hr), rfl, fun s hs => hs, fun s hs => .inl hs, fun r hr => (by cases hr)⟩
theorem Bf.next {a b : Ch} {st p : List Int} {f : Nat} {met : List (List Int)} {rows : List Row} {acc : List (List Int) × List Row} (B : Bf a b st p (f + 1) met rows) (A : AccOk a b st p (65 - (f + 1)) met rows acc) (hr : rows ≠ []) : Bf a b st p f acc.1 acc.2 := by
  refine ⟨by have := B.le; omega, A.nd, A.rm, fun r hr => ⟨(A.rows r hr).1, by rw [(A.rows r hr).2.1]; have := B.le; omega, (A.rows r hr).2.2⟩, fun s hs => ?_, A.sub _ B.at_, fun hn => ?_⟩
  · rcases A.new s hs with z | z
    · rcases B.cl s z with q | q
      · obtain ⟨r, hr, rfl⟩ := List.mem_map.mp q
        exact .inr (A.dn r hr)
      · exact .inr ⟨q.1, fun x hx => A.sub _ (q.2 x hx)⟩
    · exact .inl z
  · have := B.fuel hr
    have := A.len
    have : acc.2.length ≠ 0 := fun z => hn (List.length_eq_zero_iff.mp z)
    omega
theorem reach_set2 {a b : Ch} {st p s : List Int} (two : Two a b a.n) (hst : IsSet a.n st) (hp : IsSet a.n p) (h : Reach a b st p s) : IsSet a.n s := by
  induction h with
  | refl => exact hp
  | step _ m ih =>
    obtain ⟨h1, h2⟩ := moves_at.mp m
    simp only at h1 h2
    rw [h2]
    have ho := hst.2 _ (List.mem_filter.mp h1).1
    exact isSet_filter (two.aok _ (isSet_withO ih ho)).1 _
theorem Bf.few {a b : Ch} {st p : List Int} {f : Nat} {met : List (List Int)} {rows : List Row} (B : Bf a b st p f met rows) (two : Two a b a.n) (hst : IsSet a.n st) (hp : IsSet a.n p) : met.length ≤ 64 := sets_few two.few B.nd fun s hs => reach_set2 two hst hp (B.rm s hs)
theorem AccOk.few {a b : Ch} {st p : List Int} {n : Nat} {met : List (List Int)} {dn : List Row} {acc : List (List Int) × List Row} (A : AccOk a b st p n met dn acc) (two : Two a b a.n) (hst : IsSet a.n st) (hp : IsSet a.n p) : acc.1.length ≤ 64 := sets_few two.few A.nd fun s hs => reach_set2 two hst hp (A.rm s hs)
/-- a scan's outcome -/
theorem scan_ok {a b : Ch} {st p : List Int} {n : Nat} {met : List (List Int)} : ∀ (rows : List Row) {dn : List Row} {acc : List (List Int) × List Row}, (∀ r ∈ rows, endOf a b st p r.1 = some r.2 ∧ r.1.length = n) → AccOk a b st p n met dn acc →
    match scan a b st rows acc with
    | .inl os => ∃ e, endOf a b st p os = some e ∧ movesOf a b st e = []
    | .inr acc' => AccOk a b st p n met (dn ++ rows) acc'
  | [], dn, acc, _, A => by
    show AccOk a b st p n met (dn ++ []) acc
    rw [List.append_nil]
    exact A
  | r :: rows, dn, acc, h, A => by
    obtain ⟨h1, h2⟩ := h r (List.mem_cons_self ..)
    by_cases hm : movesOf a b st r.2 = []
    · have : scan a b st (r :: rows) acc = .inl r.1 := by unfold scan; rw [if_pos hm]
      rw [this]
      exact ⟨r.2, h1, hm⟩
    · have e : scan a b st (r :: rows) acc = scan a b st rows (rowIn a b st acc r) := by rw [scan, if_neg hm]
      have := scan_ok rows (fun q hq => h q (List.mem_cons_of_mem _ hq)) (A.row h1 h2 hm)
      rw [e, show dn ++ r :: rows = (dn ++ [r]) ++ rows by simp]
      exact this
theorem bfs_some {a b : Ch} {st p : List Int} (two : Two a b a.n) (hst : IsSet a.n st) (hp : IsSet a.n p) (ex : ∃ e, Reach a b st p e ∧ movesOf a b st e = []) : ∀ (f : Nat) {met : List (List Int)} {rows : List Row}, Bf a b st p f met rows → ∃ os e, bfs a b st f met rows = some os ∧ endOf a b st p os = some e ∧ movesOf a b st e = []
  | f, met, [], B => by
    obtain ⟨e, he, hm⟩ := ex
    have all : ∀ s, Reach a b st p s → s ∈ met := fun s h => by
      induction h with
      | refl => exact B.at_
      | step _ m ih =>
        rcases B.cl _ ih with z | z
        · cases z
        · exact z.2 _ m
    rcases B.cl e (all e he) with z | z
    · cases z
    · exact absurd hm z.1
  | 0, met, r :: rows, B => by
    have := B.fuel (by simp)
    have := B.few two hst hp
    omega
  | f + 1, met, r :: rows, B => by
    have sc := scan_ok (r :: rows) (fun q hq => ⟨(B.row q hq).1, (B.row q hq).2.1⟩) B.acc
    have e : bfs a b st (f + 1) met (r :: rows) = match scan a b st (r :: rows) (met, []) with
      | .inl os => some os
      | .inr acc => bfs a b st f acc.1 acc.2 := by rw [bfs, if_neg (by simp)]
    rw [e]
    cases hs : scan a b st (r :: rows) (met, []) with
    | inl os =>
      rw [hs] at sc
      obtain ⟨e, h1, h2⟩ := sc
      exact ⟨os, e, rfl, h1, h2⟩
    | inr acc =>
      rw [hs] at sc
      exact bfs_some two hst hp ex f (B.next sc (by simp))
theorem firstChain_some {a b : Ch} {st p : List Int} (two : Two a b a.n) (hst : IsSet a.n st) (hp : IsSet a.n p) (ex : ∃ e, Reach a b st p e ∧ movesOf a b st e = []) : ∃ os e, firstChain a b st p = some os ∧ endOf a b st p os = some e ∧ movesOf a b st e = [] := bfs_some two hst hp ex 65 Bf.start
end Ost
set_option Elab.async false
set_option linter.all false
set_option maxRecDepth 100000
set_option maxHeartbeats 1000000
/-! D8: the graph of presses. -/
namespace Ost
open PySem PySem.Spec PyProof.Rows L2
open C8 (Cal pe_c Mak pe_mk Met pe_gc)

/-- the dict of presses of the sets ks -/
def gm (a b : Ch) (st : List Int) (ks : List (List Int)) : List (List Int × PyData) := ks.map fun s => (s, .list ((movesOf a b st s).map movD))
theorem lookD_gm {a b : Ch} {st : List Int} : ∀ {ks : List (List Int)} {s : List Int}, lookD (gm a b st ks) s = if s ∈ ks then some (.list ((movesOf a b st s).map movD)) else none
  | [], s => rfl
  | t :: ks, s => by
    have ih := lookD_gm (a := a) (b := b) (st := st) (ks := ks) (s := s)
    unfold lookD gm at ih ⊢
    by_cases e : t = s
    · subst e
      rw [List.map_cons, List.find?_cons_of_pos (by simp), if_pos (List.mem_cons_self ..)]
      rfl
    · rw [List.map_cons, List.find?_cons_of_neg (by simpa using e), ih]
      have : s ∈ t :: ks ↔ s ∈ ks := ⟨fun h => (List.mem_cons.mp h).resolve_left fun z => e z.symm, List.mem_cons_of_mem _⟩
      by_cases h : s ∈ ks
      · rw [if_pos h, if_pos (this.mpr h)]
      · rw [if_neg h, if_neg fun z => h (this.mp z)]
theorem gm_keys (a b : Ch) (st : List Int) (ks : List (List Int)) : (gm a b st ks).map (·.1) = ks := by unfold gm; rw [List.map_map]; exact List.map_id _
/-- the keys of a graph -/
structure IsGraph (a b : Ch) (st p : List Int) (ks : List (List Int)) : Prop where
  nd : ks.Nodup
  mem : ∀ s, s ∈ ks ↔ Reach a b st p s
def graphT (C : Cn) (a b : Ch) (st p : List Int) : VT := ⟨fun v H => ∃ ks, IsGraph a b st p ks ∧ (dicT (gm a b st ks)).P v H ∧ Tab C H, fun e h => by
  obtain ⟨ks, h1, h2, h3⟩ := h
  exact ⟨ks, h1, (dicT _).mono e h2, h3.mono e⟩⟩
/-- whatever is come to is a set -/
theorem reach_set {a b : Ch} {st p s : List Int} (two : Two a b a.n) (hst : IsSet a.n st) (hp : IsSet a.n p) (h : Reach a b st p s) : IsSet a.n s := by
  induction h with
  | refl => exact hp
  | step _ m ih =>
    obtain ⟨h1, h2⟩ := moves_at.mp m
    simp only at h1 h2
    rw [h2]
    exact isSet_pressB two ih (hst.2 _ (wished_in h1))
theorem eqv_nil_sets (L : List (List Int)) : PyData.eqv (.list (L.map sD)) (.list []) = decide (L = []) := by
  cases L with
  | nil => simp [PyData.eqv, PyData.eqvAll]
  | cons s L => simp [PyData.eqv, PyData.eqvAll]
theorem sh_setsL (L : List (List Int)) : SeqAt.shaped (.list (L.map sD)) = true := (sh_lst (k := 1) fun d hd => by obtain ⟨s, _, rfl⟩ := List.mem_map.mp hd; exact sh_sD s).ok (by decide)

/-- the state ahead of a turn: H0 the entry; ks told, wl waiting -/
structure PgSt (C : Cn) (a b : Ch) (st p : List Int) (H0 : Hp) (ks wl : List (List Int)) (σ : L2.St) (H : Hp) : Prop where
  same : Same H0 H
  args : Ty [some (cho C a), some (cho C b), some (dt (sD st)), some (dt (sD p)), none, none, none, none, none] σ H0
  fw : ∃ F W kvs ws, σ[4]? = some (some (.ref F)) ∧ σ[5]? = some (some (.ref W)) ∧ H0 F = none ∧ H0 W = none ∧ H F = some (.dT kvs) ∧ DicAll H (gm a b st ks) kvs ∧ (∀ v ∈ kvs.map (·.2), v ≠ .ref W) ∧ H W = some (.lst ws) ∧ TpAll H (wl.map sD) ws
theorem PgSt.mono {C : Cn} {a b : Ch} {st p : List Int} {H0 H H' : Hp} {ks wl : List (List Int)} {σ : L2.St} (h : PgSt C a b st p H0 ks wl σ H) (e : Same H H') : PgSt C a b st p H0 ks wl σ H' := by
  obtain ⟨F, W, kvs, ws, h1, h2, h3, h4, h5, h6, h7, h8, h9⟩ := h.fw
  exact ⟨h.same.trans e, h.args, F, W, kvs, ws, h1, h2, h3, h4, e.get h5, h6.mono e, h7, e.get h8, TpAll.mono e _ _ h9⟩
theorem PgSt.ty {C : Cn} {a b : Ch} {st p : List Int} {H0 H : Hp} {ks wl : List (List Int)} {σ : L2.St} (h : PgSt C a b st p H0 ks wl σ H) : Ty [some (cho C a), some (cho C b), some (dt (sD st)), some (dt (sD p)), some (dicF (gm a b st ks)), some (dt (.list (wl.map sD))), none, none, none] σ H := by
  obtain ⟨F, W, kvs, ws, h1, h2, h3, h4, h5, h6, h7, h8, h9⟩ := h.fw
  have t := h.args.mono h.same
  refine ⟨t.len, fun i x q => ?_⟩
  match i, q with
  | 0, q => exact t.at_ 0 x q
  | 1, q => exact t.at_ 1 x q
  | 2, q => exact t.at_ 2 x q
  | 3, q => exact t.at_ 3 x q
  | 4, q => cases q; exact ⟨_, h1, F, kvs, rfl, .inl h5, h6⟩
  | 5, q => cases q; exact ⟨_, h2, dt_lst h8 h9⟩
  | 6, q => cases q
  | 7, q => cases q
  | 8, q => cases q
  | i + 9, q => simp at q
/-- lists at other places stay -/
theorem TpAll.off {H : Hp} {l : Addr} {ys : List V} {o : HO} (h : H l = some (.lst ys)) : ∀ {ds : List PyData} {vs : List V}, (∀ d ∈ ds, noL d = true ∨ ∃ es, d = .list es ∧ noLs es = true) → (∀ v ∈ vs, v ≠ .ref l) → TpAll H ds vs → TpAll (upd H l o) ds vs
  | [], vs, _, _, t => ta_nil.mpr (ta_nil.mp t)
  | d :: ds, vs, hd, hv, t => by
    obtain ⟨v, r, rfl, h1, h2⟩ := ta_cons.mp t
    refine TpAll.cons ?_ (TpAll.off h (fun x hx => hd x (List.mem_cons_of_mem _ hx)) (fun x hx => hv x (List.mem_cons_of_mem _ hx)) h2)
    rcases hd d (List.mem_cons_self ..) with n | ⟨es, rfl, n⟩
    · exact Tp.keep (Tups.lst h) _ _ n h1
    · obtain ⟨a, xs, rfl, q1, q2⟩ := tp_list.mp h1
      have al : a ≠ l := fun z => hv (.ref a) (List.mem_cons_self ..) (by rw [z])
      exact tp_list.mpr ⟨a, xs, rfl, by rw [upd_ne al]; exact q1, TpAll.keep (Tups.lst h) _ _ n q2⟩
theorem gm_vals (a b : Ch) (st : List Int) (ks : List (List Int)) : ∀ d ∈ (gm a b st ks).map (·.2), noL d = true ∨ ∃ es, d = .list es ∧ noLs es = true := fun d hd => by
  unfold gm at hd
  rw [List.map_map] at hd
  obtain ⟨s, _, rfl⟩ := List.mem_map.mp hd
  exact .inr ⟨_, rfl, noLs_of fun x hx => by obtain ⟨y, _, rfl⟩ := List.mem_map.mp hx; exact noL_movD y⟩

theorem Ty.know {Γ : Gm} {σ : L2.St} {H : Hp} {i : Nat} {v : V} {t : VT} (ty : Ty Γ σ H) (hv : σ[i]? = some (some v)) (p : t.P v H) (lt : i < Γ.length) : Ty (Γ.set i (some t)) σ H := ⟨by rw [List.length_set]; exact ty.len, fun k u q => by
  rcases set_at q with ⟨rfl, e⟩ | ⟨_, q'⟩
  · cases e; exact ⟨v, hv, p⟩
  · exact ty.at_ k u q'⟩
/-- what is told of the sets so far -/
structure PgIn (a b : Ch) (st p : List Int) (ks wl : List (List Int)) : Prop where
  nd : ks.Nodup
  rk : ∀ s ∈ ks, Reach a b st p s
  rw : ∀ s ∈ wl, Reach a b st p s
  cl : ∀ s ∈ ks, ∀ x ∈ movesOf a b st s, x.2 ∈ ks ∨ x.2 ∈ wl
  at_ : p ∈ ks ∨ p ∈ wl
  len : wl.length ≤ 1 + 6 * ks.length
theorem PgIn.start {a b : Ch} {st p : List Int} : PgIn a b st p [] [p] := ⟨List.nodup_nil, fun s h => (by cases h), fun s h => (by rw [List.mem_singleton.mp h]; exact .refl), fun s h => (by cases h), .inr (by simp), by simp⟩
theorem PgIn.skip {a b : Ch} {st p here : List Int} {ks wl : List (List Int)} (I : PgIn a b st p ks (wl ++ [here])) (h : here ∈ ks) : PgIn a b st p ks wl := by
  refine ⟨I.nd, I.rk, fun s hs => I.rw s (List.mem_append_left _ hs), fun s hs x hx => ?_, ?_, ?_⟩
  · rcases I.cl s hs x hx with z | z
    · exact .inl z
    · rcases List.mem_append.mp z with z | z
      · exact .inr z
      · rw [List.mem_singleton.mp z]; exact .inl h
  · rcases I.at_ with z | z
    · exact .inl z
    · rcases List.mem_append.mp z with z | z
      · exact .inr z
      · rw [List.mem_singleton.mp z]; exact .inl h
  · have := I.len
    rw [List.length_append] at this
    omega
theorem PgIn.more {a b : Ch} {st p here : List Int} {ks wl : List (List Int)} (I : PgIn a b st p ks (wl ++ [here])) (h : here ∉ ks) (l6 : (movesOf a b st here).length ≤ 6) : PgIn a b st p (ks ++ [here]) (wl ++ (movesOf a b st here).map (·.2)) := by
  have rh := I.rw here (by simp)
  have up : ∀ {t : List Int}, t ∈ ks ∨ t ∈ wl ++ [here] → t ∈ ks ++ [here] ∨ t ∈ wl ++ (movesOf a b st here).map (·.2) := fun {t} z => by
    simp only [List.mem_append, List.mem_singleton] at z ⊢
    rcases z with z | z | z
    · exact .inl (.inl z)
    · exact .inr (.inl z)
    · exact .inl (.inr z)
  refine ⟨List.nodup_append.mpr ⟨I.nd, by simp, fun x hx y hy => by rw [List.mem_singleton.mp hy]; rintro rfl; exact h hx⟩, fun s hs => ?_, fun s hs => ?_, fun s hs x hx => ?_, up I.at_, ?_⟩
  · rcases List.mem_append.mp hs with z | z
    · exact I.rk s z
    · rw [List.mem_singleton.mp z]; exact rh
  · rcases List.mem_append.mp hs with z | z
    · exact I.rw s (List.mem_append_left _ z)
    · obtain ⟨x, hx, rfl⟩ := List.mem_map.mp z
      exact rh.step (o := x.1) hx
  · rcases List.mem_append.mp hs with z | z
    · exact up (I.cl s z x hx)
    · rw [List.mem_singleton.mp z] at hx
      exact .inr (List.mem_append_right _ (List.mem_map.mpr ⟨x, hx, rfl⟩))
  · have := I.len
    rw [List.length_append] at this ⊢
    rw [List.length_map, List.length_append]
    have e : [here].length = 1 := rfl
    omega
theorem PgIn.done {a b : Ch} {st p : List Int} {ks : List (List Int)} (I : PgIn a b st p ks []) : IsGraph a b st p ks := ⟨I.nd, fun s => ⟨I.rk s, fun h => by
  induction h with
  | refl => exact I.at_.elim id fun z => by cases z
  | step _ m ih => exact (I.cl _ ih _ m).elim id fun z => by cases z⟩⟩

abbrev N_press_graph : List Str := ["near", "far", "standing", "part", "found", "waiting", "here", "offer", "behind"]
theorem sc_press_graph : FnScope N_press_graph ["near", "far", "standing", "part"] (defScope s_press_graph) := ⟨rfl, rfl, rfl, by decide +kernel, rfl, by decide +kernel, by decide +kernel⟩
def sg_press_graph (C : Cn) : Sg (Ch × Ch × List Int × List Int) := ⟨fun x => Two x.1 x.2.1 x.1.n ∧ IsSet x.1.n x.2.2.1 ∧ IsSet x.1.n x.2.2.2, fun x => [cho C x.1, cho C x.2.1, dt (sD x.2.2.1), dt (sD x.2.2.2)], fun x => graphT C x.1 x.2.1 x.2.2.1 x.2.2.2⟩
def sp_press_graph (C : Cn) : Sp := (sg_press_graph C).sp
theorem ok_press_graph {P : Program} {w : World} {K : PySem.W.Frag} {mg : Str → Option Value} {base : Heap} {C : Cn} {f : Addr} {fd : FuncData} (F : FunD K "press_graph" "press_graph" (defArgs s_press_graph) (defBody s_press_graph) (defScope s_press_graph) [] [] f fd) (m : mg "press_graph" = some (.ref f)) (T : Top K mg C) (c_press_moves : Cal P w K mg base 4 "press_moves" (sp_press_moves C) []) :
    Cal P w K mg base 5 "press_graph" (sp_press_graph C) [] := by
  refine cal_of F (fn_hand (S := sg_press_graph C) (k := 4) F sc_press_graph (fun _ => rfl) fun cdv A outer s H E hr => ⟨_, PSs.nox ((pss_cons (ps_par (i := 4) (j := 5) (by rfl) sc_press_graph.nd rfl rfl (by decide) rfl rfl (pa_cons pe_dnewT (pa_cons (pe_lst (pa_cons (pv 3) pa_nil)) pa_nil)) (by rfl))
    (pss_cons (ps_while PassesOwn.never (pt_cmpR (o_ne (K := K) rfl hr.units) (pv 5) (pe_lst pa_nil) (nomark _)) (pss_cons (ps_set (i := 6) sc_press_graph.nd rfl (Or.inl rfl) (pe_bm0 PySem.F.plainAttrs_list PySem.F.slot_list_pop PySem.F.type_list_pop mt_pop (pv 5)))
    (pss_one (ps_if (pt_cmp (pc_dnotin (hu_of hr) (pv 6) (pv 4))) (pss_cons (ps_dput (hu_of hr) (pv 4) (pv 6) (pe_c c_press_moves hr (by decide) (by rfl) (pa_cons (pv 0) (pa_cons (pv 1) (pa_cons (pv 2) (pa_cons (pv 6) pa_nil))))) rfl)
    (pss_one (ps_expr (pe_bm PySem.F.plainAttrs_list PySem.F.slot_list_extend PySem.F.type_list_extend mt_extend (pv 5) (pa_cons (pe_lc (own := [("offer", 7), ("behind", 8)]) rfl sc_press_graph.nd (i_seq (K := K) rfl (pe_dget (hu_of hr) (pv 4) (pv 6) (fun _ _ => rfl))) (blkOk_by (own := [("offer", 7), ("behind", 8)]) (N := N_press_graph) (sc := defScope s_press_graph) (by decide +kernel)) (fun _ _ _ _ _ => (g_tup (K := K) (n := 2) rfl (by rfl) (pgs_cons (pg_name (i := 7) sc_press_graph.nd rfl (Or.inl rfl)) (pgs_cons (pg_name (i := 8) sc_press_graph.nd rfl (Or.inl rfl)) pgs_nil)))) (fun _ _ _ _ _ => pts_nil) (fun _ _ _ _ _ => (pv 8))) pa_nil))))) pss_nil))))
    (pss_one (ps_ret (pv 4)))))), fun vs x hd hf Q hq => ?_⟩) m (fun _ _ _ _ _ _ us hl => match us, hl with | [_, _, _, _], _ => rfl)
  obtain ⟨a, b, st, p⟩ := x
  have hd : Two a b a.n ∧ IsSet a.n st ∧ IsSet a.n p := hd
  obtain ⟨two, hst, hp⟩ := id hd
  have h6 := two.few
  have ty := ty_start hf N_press_graph
  have len9 : (L2.start N_press_graph vs).length = 9 := by rw [← ty.len]; rfl
  have tab : Tab C H := by
    obtain ⟨v, _, q⟩ := ty.at_ 0 (cho C a) rfl
    have q : chP C a v H := q
    obtain ⟨_, _, _, _, _, _, _, _, _, _, _, _, _, q⟩ := q
    exact q
  obtain ⟨v3, g3, p3⟩ := ty.at_ 3 (dt (sD p)) rfl
  -- the two new things
  intro F hF
  have e1 : Same H (upd H F (.dT [])) := same_upd hF
  refine (jf_lst (ds := [sD p]) (ja_cons (jd_var (i := 3) rfl) ja_nil) (by simp) : Jf _ _ _) _ _ (ty.mono e1) _ fun W ws H1 e2 hW h1 h2 => ?_
  have hW0 : H W = none := e1.free hW
  have FW : F ≠ W := fun z => by rw [← z, upd_same] at hW; cases hW
  refine ⟨_, _, rfl, ?_⟩
  have sm1 : Same H H1 := e1.trans e2
  have lF : H1 F = some (.dT []) := e2.get upd_same
  have S0 : PgSt C a b st p H [] [p] (((L2.start N_press_graph vs).set 4 (some (.ref F))).set 5 (some (.ref W))) H1 := by
    refine ⟨sm1, ((ty.set 4 (t := anyT) (v := .ref F) trivial).set 5 (t := anyT) (v := .ref W) trivial).weakG ⟨rfl, rfl, rfl, rfl, trivial⟩, F, W, [], ws, ?_, ?_, hF, hW0, lF, ⟨rfl, TpAll.nil⟩, fun v hv => (by cases hv), h1, h2⟩
    · rw [List.getElem?_set_ne (by decide), List.getElem?_set_self (by rw [len9]; decide)]
    · rw [List.getElem?_set_self (by rw [List.length_set, len9]; decide)]
  -- the loop
  refine ⟨fun m σ' H' => ∃ ks wl, PgSt C a b st p H ks wl σ' H' ∧ PgIn a b st p ks wl ∧ m = (64 - ks.length) * 7 + wl.length, ⟨_, [], [p], S0, PgIn.start, rfl⟩, ?_⟩
  rintro mm σ' H' ⟨ks, wl, S, I, rfl⟩
  refine jt_test (jd_neD (K := K) (jd_var (i := 5) (T := dt (.list (wl.map sD))) rfl) (jd_of_jf (jf_lst (ds := []) ja_nil (by simp))) (sh_setsL wl) (sh_setsL [])) σ' H' S.ty _ fun H2 e2 => ?_
  rw [eqv_nil_sets]
  have S2 := S.mono e2
  clear S e2
  obtain ⟨F2, W2, kvs, wv, g4, g5, z1, z2, hF2, hal, hvs, hW2, hwl⟩ := id S2.fw
  rcases List.eq_nil_or_concat wl with rfl | ⟨wr, here, rfl⟩
  · refine iteF ?_
    refine ⟨_, g4, hq _ H2 S2.same ⟨ks, I.done, ⟨F2, kvs, rfl, hF2, hal⟩, tab.mono S2.same⟩⟩
  rw [List.concat_eq_append] at *
  have hne : decide (wr ++ [here] = []) = false := by simp
  rw [hne]
  refine iteT ⟨fun σ3 H3 => ∃ m', m' < (64 - ks.length) * 7 + (wr ++ [here]).length ∧ ∃ ks wl, PgSt C a b st p H ks wl σ3 H3 ∧ PgIn a b st p ks wl ∧ m' = (64 - ks.length) * 7 + wl.length, fun _ _ q => q, ?_⟩
  -- here = waiting.pop()
  rw [List.map_append] at hwl
  obtain ⟨us, x, rfl, q1, q2⟩ : ∃ us x, wv = us ++ [x] ∧ TpAll H2 (wr.map sD) us ∧ Tp H2 (sD here) x := by
    have t1 := hwl.take (wr.map sD).length
    have t2 := hwl.drop (wr.map sD).length
    rw [List.take_left] at t1
    rw [List.drop_left] at t2
    obtain ⟨x, r2, e2, t3, t4⟩ := ta_cons.mp t2
    have t4 : r2 = [] := ta_nil.mp t4
    subst t4
    exact ⟨_, x, by rw [← e2]; exact (List.take_append_drop _ _).symm, t1, t3⟩
  refine ⟨.ref W2, g5, .inl ⟨rfl, _, SqL.of hW2⟩, W2, us ++ [x], x, rfl, rfl, hW2, by simp, ?_⟩
  rw [List.dropLast_concat]
  have F2W : F2 ≠ W2 := fun z => by rw [z, hW2] at hF2; cases hF2
  obtain ⟨q, rfl, hq2⟩ := tp_sD.mp q2
  have qW : q ≠ W2 := fun z => by rw [z, hW2] at hq2; cases hq2
  have S3 : PgSt C a b st p H ks wr (σ'.set 6 (some (.ref q))) (upd H2 W2 (.lst us)) := by
    refine ⟨same_mut S2.same z2 (nocode_lst hW2), (S2.args.set 6 (t := anyT) (v := .ref q) trivial).weakG ⟨rfl, rfl, rfl, rfl, trivial⟩, F2, W2, kvs, us, by rw [List.getElem?_set_ne (by decide)]; exact g4, by rw [List.getElem?_set_ne (by decide)]; exact g5, z1, z2, by rw [upd_ne F2W]; exact hF2, ⟨hal.1, TpAll.off hW2 (gm_vals a b st ks) hvs hal.2⟩, hvs, upd_same, TpAll.keep (Tups.lst hW2) _ _ (noLs_sets wr) q1⟩
  have g6 : (σ'.set 6 (some (.ref q)))[6]? = some (some (.ref q)) := List.getElem?_set_self (by rw [← S2.args.len]; show 6 < 9; decide)
  have k3 : (dt (sD here)).P (.ref q) (upd H2 W2 (.lst us)) := tp_sD.mpr ⟨q, rfl, by rw [upd_ne qW]; exact hq2⟩
  clear S2 hF2 hal hvs hW2 hwl q1 hq2 q2
  dsimp only [gName]
  generalize σ'.set 6 (some (.ref q)) = σ3 at *
  generalize upd H2 W2 (.lst us) = H3 at *
  have rh : Reach a b st p here := I.rw here (by simp)
  have hs : IsSet a.n here := reach_set two hst hp rh
  have tyh : ∀ {ks wl : List (List Int)} {Hx : Hp}, PgSt C a b st p H ks wl σ3 Hx → (dt (sD here)).P (.ref q) Hx → Ty [some (cho C a), some (cho C b), some (dt (sD st)), some (dt (sD p)), some (dicF (gm a b st ks)), some (dt (.list (wl.map sD))), some (dt (sD here)), none, none] σ3 Hx := fun S k => S.ty.know (i := 6) g6 k (by show 6 < 9; decide)
  refine jt_B (jd_dnotin (jd_var (i := 6) (T := dt (sD here)) rfl) (jd_var (i := 4) rfl)) σ3 H3 (tyh S3 k3) _ fun H4 e4 => ?_
  rw [lookD_gm]
  have S4 := S3.mono e4
  have k4 := (dt (sD here)).mono e4 k3
  clear S3 k3 e4
  by_cases hin : here ∈ ks
  · rw [if_pos hin]
    refine iteF ⟨_, ?_, ks, wr, S4, I.skip hin, rfl⟩
    rw [List.length_append]
    exact Nat.lt_succ_self _
  rw [if_neg hin]
  refine iteT ?_
  have few : (ks ++ [here]).length ≤ 64 := sets_few h6 (n := a.n) (List.nodup_append.mpr ⟨I.nd, by simp, fun x hx y hy => by rw [List.mem_singleton.mp hy]; rintro rfl; exact hin hx⟩) fun s hs' => by
    rcases List.mem_append.mp hs' with z | z
    · exact reach_set two hst hp (I.rk s z)
    · rw [List.mem_singleton.mp z]; exact hs
  rw [List.length_append] at few
  have few : ks.length + 1 ≤ 64 := few
  -- found[here] = ..
  refine (jf_call (S := sf_press_moves C) (a, b, st, here) ⟨two, hst, hs⟩ (ja_cons (jd_var rfl) (ja_cons (jd_var rfl) (ja_cons (jd_var rfl) (ja_cons (jd_var rfl) ja_nil))))) σ3 H4 (tyh S4 k4) _ fun l ls H5 e5 nl hl hls => ?_
  have S5 := S4.mono e5
  have k5 := (dt (sD here)).mono e5 k4
  obtain ⟨F5, W5, kvs5, us5, g4, g5, z1, z2, hF5, hal5, hvs5, hW5, hwl5⟩ := id S5.fw
  have lW : l ≠ W5 := fun z => by
    obtain ⟨F4, W4, _, us4, _, g5', _, _, _, _, _, hW4, _⟩ := S4.fw
    rw [g5] at g5'
    cases g5'
    rw [z, hW4] at nl
    cases nl
  obtain ⟨q', eq', hq5⟩ := tp_sD.mp k5
  cases eq'
  have moves : (sf_press_moves C).R (a, b, st, here) = (movesOf a b st here).map movD := rfl
  rw [moves] at hls
  obtain ⟨put1, put2⟩ := hal5.snoc (s := here) (d := .list ((movesOf a b st here).map movD)) (v := .ref l) (by rw [lookD_gm, if_neg hin]) (tp_list.mpr ⟨l, ls, rfl, hl, hls⟩)
  have few5 : kvs5.length < sizeLine := small1000 (by rw [hal5.length]; unfold gm; rw [List.length_map]; omega)
  refine ⟨_, g4, _, g6, F5, _, rfl, DPut.t hF5 (by rw [keyOf_kV]; exact hq5) few5, ?_⟩
  rw [put1]
  have F5W : F5 ≠ W5 := fun z => by rw [z, hW5] at hF5; cases hF5
  have tl6 : TLs H5 (upd H5 F5 (.dT (kvs5 ++ [(keyOf here, .ref l)]))) := ⟨fun u xs e => by rw [upd_ne fun z => by rw [z, hF5] at e; cases e]; exact e, fun u xs e => by rw [upd_ne fun z => by rw [z, hF5] at e; cases e]; exact e⟩
  have gsn : gm a b st ks ++ [(here, .list ((movesOf a b st here).map movD))] = gm a b st (ks ++ [here]) := by unfold gm; rw [List.map_append]; rfl
  rw [gsn] at put2
  have S6 : PgSt C a b st p H (ks ++ [here]) wr σ3 (upd H5 F5 (.dT (kvs5 ++ [(keyOf here, .ref l)]))) := by
    refine ⟨same_mut S5.same z1 (nocode_dT hF5), S5.args, F5, W5, _, us5, g4, g5, z1, z2, upd_same, ⟨put2.1, TpAll.tl tl6 _ _ put2.2⟩, fun v hv => ?_, by rw [upd_ne (Ne.symm F5W)]; exact hW5, TpAll.tl tl6 _ _ hwl5⟩
    rw [List.map_append] at hv
    rcases List.mem_append.mp hv with hv | hv
    · exact hvs5 v hv
    · rw [List.mem_singleton.mp hv]
      exact fun z => lW (V.ref.inj z)
  have k6 : (dt (sD here)).P (.ref q) (upd H5 F5 (.dT (kvs5 ++ [(keyOf here, .ref l)]))) := Tp.tl tl6 _ _ k5
  clear S5 k5 S4 k4 e5 hF5 hal5 hvs5 hwl5 hq5 put2 hls hl put1 few5
  generalize upd H5 F5 (.dT (kvs5 ++ [(keyOf here, .ref l)])) = H6 at *
  -- waiting.extend(..)
  obtain ⟨F6, W6, kvs6, us6, _, g5, z1, z2, hF6, hal6, hvs6, hW6, hwl6⟩ := id S6.fw
  have mvl : (movesOf a b st here).length ≤ 6 := by
    unfold movesOf
    rw [List.length_map]
    exact len6 (isSet_wished hst) h6
  refine ⟨.ref W6, g5, .inl ⟨rfl, _, SqL.of hW6⟩, ?_⟩
  refine (Jf.eq (jf_lc (xs := movesOf a b st here) (Y := fun x => dt (movD x)) (bind := fun x Γ => (Γ.set 7 (some (dt (.int x.1)))).set 8 (some (dt (sD x.2)))) (p := fun _ => true) (q := fun x => sD x.2) (ji_lst (D := movD) (jd_dget (jd_var (i := 4) rfl) (jd_var (i := 6) (T := dt (sD here)) rfl) (by rw [lookD_gm, if_pos (by simp)]))) (tg_pair (A := fun x : Int × List Int => .int x.1) (B := fun x => sD x.2) 7 8) (fun x hx => jt_yes) (fun x hx _ => jd_var rfl) (by omega) (fun x _ _ => noL_sD _)) (show _ = ((movesOf a b st here).map (·.2)).map sD by rw [List.filter_eq_self.mpr (fun _ _ => rfl), List.map_map]; rfl)) σ3 H6 (tyh S6 k6) _ fun l2 us2 H7 e7 nl2 hl2 hu2 => ?_
  have hW7 : H7 W6 = some (.lst us6) := e7.get hW6
  have hwl7 := TpAll.mono e7 _ _ hwl6
  have lens : us6.length + us2.length ≤ sizeLine := by
    rw [hwl6.length, hu2.length, List.length_map, List.length_map, List.length_map]
    have := I.len
    rw [List.length_append] at this
    exact Nat.le_of_lt (small1000 (by have : [here].length = 1 := rfl; omega))
  refine ⟨W6, l2, us6, us2, rfl, rfl, hW7, hl2, lens, ?_⟩
  have F6W : F6 ≠ W6 := fun z => by rw [z, hW6] at hF6; cases hF6
  refine ⟨(64 - (ks ++ [here]).length) * 7 + (wr ++ (movesOf a b st here).map (·.2)).length, ?_, ks ++ [here], wr ++ (movesOf a b st here).map (·.2), ⟨same_mut (S6.same.trans e7) z2 (nocode_lst hW7), S6.args, F6, W6, kvs6, us6 ++ us2, by assumption, g5, z1, z2, by rw [upd_ne F6W]; exact e7.get hF6, ⟨hal6.1, TpAll.off hW7 (gm_vals a b st _) hvs6 (TpAll.mono e7 _ _ hal6.2)⟩, hvs6, upd_same, ?_⟩, I.more hin mvl, rfl⟩
  · rw [List.length_append, List.length_append, List.length_append, List.length_map]
    have : [here].length = 1 := rfl
    omega
  · rw [List.map_append]
    exact (TpAll.keep (Tups.lst hW7) _ _ (noLs_sets _) hwl7).append (TpAll.keep (Tups.lst hW7) _ _ (noLs_sets _) hu2)
end Ost
set_option Elab.async false
set_option linter.all false
set_option maxRecDepth 100000
set_option maxHeartbeats 1000000
/-! D9: what chains come to. -/
namespace Ost
open PySem PySem.Spec PyProof.Rows L2
open C8 (Cal pe_c Mak pe_mk Met pe_gc)

/-! ### types that say there is something -/
section
variable {Γ Γ' : Gm} {i : Nat} {T R : VT} {s1 : TS} {te : TE} {C : Prop} {α : Type} {T' : α → VT} {tg : TA} {E : XK} {ds : List PyData}
theorem js_open (hi : Γ[i]? = some (some T)) (ho : ∀ v H, T.P v H → ∃ x, (T' x).P v H) (h : ∀ x, Js (Γ.set i (some (T' x))) s1 Γ' C R) : Js Γ s1 Γ' C R := fun σ H ty D k r => by
  obtain ⟨v, h1, h2⟩ := ty.at_ i T hi
  obtain ⟨x, px⟩ := ho v H h2
  exact h x σ H (ty.know h1 px (List.getElem?_eq_some_iff.mp hi).1) D k r
theorem jd_callE {S : Sg α} {ts : List VT} (h : Ja Γ tg ts) (k : ∀ vs H, Fits ts vs H → ∃ x, S.dom x ∧ Fits (S.ts x) vs H ∧ ∀ v H', (S.R x).P v H' → T.P v H') : Jd Γ (tCall S.sp [] E tg) T := fun σ H ty Q kq =>
  h σ H ty _ fun vs H1 e1 p1 => by
    obtain ⟨x, hd, hf, hr⟩ := k vs H1 p1
    exact ⟨x, hd, by rw [List.append_nil]; exact hf, fun v H2 e2 p2 => kq v H2 (e1.trans e2) (hr v H2 p2)⟩
theorem jd_tab {Cc : Cn} (h : Jf Γ te ds) (hT : ∀ σ H, Ty Γ σ H → Tab Cc H) : Jd Γ te (dtT Cc (.list ds)) := fun σ H ty Q k => h σ H ty _ fun l vs H1 e hn h1 h2 => k _ H1 e ⟨dt_lst h1 h2, (hT σ H ty).mono e⟩
end
/-- a dict, and the table is known -/
def gdT (C : Cn) (m : List (List Int × PyData)) : VT := ⟨fun v H => (dicT m).P v H ∧ Tab C H, fun e h => ⟨(dicT m).mono e h.1, h.2.mono e⟩⟩
theorem graph_open {C : Cn} {a b : Ch} {st p : List Int} (v : V) (H : Hp) (h : (graphT C a b st p).P v H) : ∃ ks : { ks // IsGraph a b st p ks }, (gdT C (gm a b st ks.1)).P v H := by
  obtain ⟨ks, h1, h2, h3⟩ := h
  exact ⟨⟨ks, h1⟩, h2, h3⟩
theorem IsGraph.few {a b : Ch} {st p : List Int} {ks : List (List Int)} (g : IsGraph a b st p ks) (two : Two a b a.n) (hst : IsSet a.n st) (hp : IsSet a.n p) : ks.length ≤ 64 := sets_few two.few g.nd fun s hs => reach_set two hst hp ((g.mem s).mp hs)
open Classical in
theorem mem_reachL {a b : Ch} {st p s : List Int} (two : Two a b a.n) (hst : IsSet a.n st) (hp : IsSet a.n p) : s ∈ reachL a b st p ↔ Reach a b st p s := by
  unfold reachL
  rw [List.mem_filter, mem_allS, decide_eq_true_eq]
  exact ⟨fun h => h.2, fun h => ⟨reach_set two hst hp h, h⟩⟩
theorem reachL_nodup {a b : Ch} {st p : List Int} (two : Two a b a.n) : (reachL a b st p).Nodup := (allS_nodup two.few).filter _
/-- no press is left -/
def stuckB (a b : Ch) (st s : List Int) : Bool := decide (movesOf a b st s = [])
noncomputable def endsL (a b : Ch) (st p : List Int) : List (List Int) := byS ((reachL a b st p).filter (stuckB a b st))
noncomputable def behindL (a b : Ch) (st p : List Int) : List (List Int) := byS (reachL a b st p)
theorem IsGraph.byS {a b : Ch} {st p : List Int} {ks : List (List Int)} (g : IsGraph a b st p ks) (two : Two a b a.n) (hst : IsSet a.n st) (hp : IsSet a.n p) (f : List Int → Bool) : byS (ks.filter f) = byS ((reachL a b st p).filter f) :=
  byS_uniq (g.nd.filter _) ((reachL_nodup two).filter _) fun s => by rw [List.mem_filter, List.mem_filter, g.mem, mem_reachL two hst hp]
theorem sh_moves (L : List (Int × List Int)) : SeqAt.shaped (.list (L.map movD)) = true := (sh_lst (k := 2) fun d hd => by
  obtain ⟨x, _, rfl⟩ := List.mem_map.mp hd
  exact sh_tup fun d hd => by
    simp only [List.mem_cons, List.not_mem_nil, or_false] at hd
    rcases hd with rfl | rfl
    · exact sh_int _
    · exact sh_sD _).ok (by decide)
theorem eqv_nil_moves (L : List (Int × List Int)) : PyData.eqv (.list (L.map movD)) (.list []) = decide (L = []) := by
  cases L with
  | nil => simp [PyData.eqv, PyData.eqvAll]
  | cons s L => simp [PyData.eqv, PyData.eqvAll]

structure Dom1 (a b : Ch) (st p : List Int) : Prop where
  two : Two a b a.n
  hst : IsSet a.n st
  hpt : IsSet a.n p

abbrev N_chain_settled_ends : List Str := ["graph", "here"]
theorem sc_chain_settled_ends : FnScope N_chain_settled_ends ["graph"] (defScope s_chain_settled_ends) := ⟨rfl, rfl, rfl, by decide +kernel, rfl, by decide +kernel, by decide +kernel⟩
noncomputable def sg_chain_settled_ends (C : Cn) : Sg (Ch × Ch × List Int × List Int) := ⟨fun x => Dom1 x.1 x.2.1 x.2.2.1 x.2.2.2, fun x => [graphT C x.1 x.2.1 x.2.2.1 x.2.2.2], fun x => dt (setsD (endsL x.1 x.2.1 x.2.2.1 x.2.2.2))⟩
noncomputable def sp_chain_settled_ends (C : Cn) : Sp := (sg_chain_settled_ends C).sp
theorem ok_chain_settled_ends {P : Program} {w : World} {K : PySem.W.Frag} {mg : Str → Option Value} {base : Heap} {C : Cn} {f : Addr} {fd : FuncData} (F : FunD K "chain_settled_ends" "chain_settled_ends" (defArgs s_chain_settled_ends) (defBody s_chain_settled_ends) (defScope s_chain_settled_ends) [] [] f fd) (m : mg "chain_settled_ends" = some (.ref f)) (T : Top K mg C) (c_press_in_order : Cal P w K mg base 1 "press_in_order" (sp_press_in_order C) []) :
    Cal P w K mg base 2 "chain_settled_ends" (sp_chain_settled_ends C) [] := by
  refine cal_of F (fn_js (S := sg_chain_settled_ends C) (k := 1) F sc_chain_settled_ends (fun _ => rfl) fun cdv A outer s H E hr => ⟨_, PSs.nox ((pss_one (ps_ret (pe_c c_press_in_order hr (by decide) (by rfl) (pa_cons (pe_lock (pe_lc (own := [("here", 1)]) rfl sc_chain_settled_ends.nd (pi_keys (pv 0)) (blkOk_by (own := [("here", 1)]) (N := N_chain_settled_ends) (sc := defScope s_chain_settled_ends) (by decide +kernel)) (fun _ _ _ _ _ => (pg_name (i := 1) sc_chain_settled_ends.nd rfl (Or.inl rfl))) (fun _ _ _ _ _ => pts_one (pt_cmpR (o_eq (K := K) rfl hr.units) (pe_dget (hu_of hr) (pv 0) (pv 1) (fun _ _ => rfl)) (pe_lst pa_nil) (nomark _))) (fun _ _ _ _ _ => (pv 1)))) pa_nil))))), fun x hd => ?_⟩) m (fun _ _ _ _ _ _ us hl => match us, hl with | [_], _ => rfl)
  obtain ⟨a, b, st, p⟩ := x
  have hd : Dom1 a b st p := hd
  refine ⟨[none, none], False, js_open (i := 0) rfl (graph_open (C := C)) fun ks => js_ret ?_, fun z => z.elim⟩
  obtain ⟨ks, g⟩ := ks
  have few := g.few hd.two hd.hst hd.hpt
  have lf : Jf [some (gdT C (gm a b st ks)), none] (tLockE (tLc (iKeys (tVar 0)) (gName 1) (tTest (tOp (rEqD K) (tDGet (tVar 0) (tVar 1)) (tLst tNil))) (tVar 1) [1])) ((ks.filter (stuckB a b st)).map sD) := by
    have l2 : Jf [some (dicT (gm a b st ks)), none] (tLockE (tLc (iKeys (tVar 0)) (gName 1) (tTest (tOp (rEqD K) (tDGet (tVar 0) (tVar 1)) (tLst tNil))) (tVar 1) [1])) ((ks.filter (stuckB a b st)).map sD) := by
      refine jf_lock (i := 0) rfl (fun k t hk q => ?_) (fun d => ?_) (noLs_sets _)
      · match k, hk, q with
        | 1, _, q => cases q
        | k + 2, _, q => simp at q
      · have kk := gm_keys a b st ks
        have := jf_lc (Γ := [some (dicZ d (gm a b st ks)), none]) (wi := iKeys (tVar 0)) (xs := (gm a b st ks).map (·.1)) (bind := fun s Γ => Γ.set 1 (some (dt (sD s)))) (p := stuckB a b st) (q := sD) (tt := tTest (tOp (rEqD K) (tDGet (tVar 0) (tVar 1)) (tLst tNil))) (te := tVar 1) (ji_keys (i := 0) rfl) (tg_name 1) (fun s hs => ?_) (fun s hs _ => jd_var rfl) (by rw [kk]; omega) (fun s _ _ => noL_sD s)
        · rw [kk] at this
          exact this
        · rw [kk] at hs
          refine Jt.eq (jt_test (jd_eqD (jd_dget (m := gm a b st ks) (s := s) (Jd.imp (jd_var (T := dicZ d (gm a b st ks)) rfl) fun v H h => dicZ_F h) (jd_var rfl) (by rw [lookD_gm, if_pos hs])) (jd_of_jf (jf_lst (ds := []) ja_nil (by simp))) (sh_moves _) (sh_setsL []))) ?_
          rw [eqv_nil_moves]
          rfl
    refine fun σ H ty Q k => l2 σ H ?_ Q k
    obtain ⟨v, h1, h2⟩ := ty.at_ 0 _ rfl
    exact ⟨ty.len, fun j t q => by
      match j, q with
      | 0, q => cases q; exact ⟨v, h1, h2.1⟩
      | 1, q => cases q
      | j + 2, q => simp at q⟩
  have := jd_call (S := sg_press_in_order C) (E := C8.E0) (ks.filter (stuckB a b st)) ⟨by have := List.length_filter_le (stuckB a b st) ks; omega, fun s hs => by
    have := len6 (reach_set hd.two hd.hst hd.hpt ((g.mem s).mp (List.mem_filter.mp hs).1)) hd.two.few
    omega⟩ (ja_cons (jd_tab (Cc := C) lf fun σ H ty => by
      obtain ⟨v, h1, h2⟩ := ty.at_ 0 _ rfl
      exact h2.2) ja_nil)
  refine (this : Jd _ _ (dt (setsD (byS (ks.filter (stuckB a b st)))))).eq ?_
  rw [g.byS hd.two hd.hst hd.hpt]
  rfl

abbrev N_change_outcomes : List Str := ["near", "far", "standing", "part"]
theorem sc_change_outcomes : FnScope N_change_outcomes ["near", "far", "standing", "part"] (defScope s_change_outcomes) := ⟨rfl, rfl, rfl, by decide +kernel, rfl, by decide +kernel, by decide +kernel⟩
noncomputable def sg_change_outcomes (C : Cn) : Sg (Ch × Ch × List Int × List Int) := ⟨fun x => Dom1 x.1 x.2.1 x.2.2.1 x.2.2.2, fun x => [cho C x.1, cho C x.2.1, dt (sD x.2.2.1), dt (sD x.2.2.2)], fun x => dt (setsD (endsL x.1 x.2.1 x.2.2.1 x.2.2.2))⟩
noncomputable def sp_change_outcomes (C : Cn) : Sp := (sg_change_outcomes C).sp
theorem ok_change_outcomes {P : Program} {w : World} {K : PySem.W.Frag} {mg : Str → Option Value} {base : Heap} {C : Cn} {f : Addr} {fd : FuncData} (F : FunD K "change_outcomes" "change_outcomes" (defArgs s_change_outcomes) (defBody s_change_outcomes) (defScope s_change_outcomes) [] [] f fd) (m : mg "change_outcomes" = some (.ref f)) (T : Top K mg C) (c_chain_settled_ends : Cal P w K mg base 2 "chain_settled_ends" (sp_chain_settled_ends C) []) (c_press_graph : Cal P w K mg base 5 "press_graph" (sp_press_graph C) []) :
    Cal P w K mg base 6 "change_outcomes" (sp_change_outcomes C) [] := by
  refine cal_of F (fn_js (S := sg_change_outcomes C) (k := 5) F sc_change_outcomes (fun _ => rfl) fun cdv A outer s H E hr => ⟨_, PSs.nox ((pss_one (ps_ret (pe_c c_chain_settled_ends hr (by decide) (by rfl) (pa_cons (pe_c c_press_graph hr (by decide) (by rfl) (pa_cons (pv 0) (pa_cons (pv 1) (pa_cons (pv 2) (pa_cons (pv 3) pa_nil))))) pa_nil))))), fun x hd => ?_⟩) m (fun _ _ _ _ _ _ us hl => match us, hl with | [_, _, _, _], _ => rfl)
  have hd2 : Dom1 x.1 x.2.1 x.2.2.1 x.2.2.2 := hd
  exact ⟨[], False, js_ret (jd_call (S := sg_chain_settled_ends C) x hd (ja_cons (jd_call (S := sg_press_graph C) x ⟨hd2.two, hd2.hst, hd2.hpt⟩ (ja_cons (jd_var rfl) (ja_cons (jd_var rfl) (ja_cons (jd_var rfl) (ja_cons (jd_var rfl) ja_nil))))) ja_nil)), fun z => z.elim⟩

theorem Dom3.dom1 {a b : Ch} {st p : List Int} (d : Dom3 a b st p) : Dom1 a b st p := ⟨d.two, d.hst, d.hpt⟩
abbrev N_chain_ends : List Str := ["near", "far", "standing", "part"]
theorem sc_chain_ends : FnScope N_chain_ends ["near", "far", "standing", "part"] (defScope s_chain_ends) := ⟨rfl, rfl, rfl, by decide +kernel, rfl, by decide +kernel, by decide +kernel⟩
noncomputable def sg_chain_ends (C : Cn) : Sg (Ch × Ch × List Int × List Int) := ⟨fun x => Dom4 x.1 x.2.1 x.2.2.1 x.2.2.2, fun x => [cho C x.1, cho C x.2.1, dt (sD x.2.2.1), dt (sD x.2.2.2)], fun x => dt (setsD (endsL x.1 x.2.1 x.2.2.1 x.2.2.2))⟩
noncomputable def sp_chain_ends (C : Cn) : Sp := (sg_chain_ends C).sp
theorem ok_chain_ends {P : Program} {w : World} {K : PySem.W.Frag} {mg : Str → Option Value} {base : Heap} {C : Cn} {f : Addr} {fd : FuncData} (F : FunD K "chain_ends" "chain_ends" (defArgs s_chain_ends) (defBody s_chain_ends) (defScope s_chain_ends) [] [] f fd) (m : mg "chain_ends" = some (.ref f)) (T : Top K mg C) (c_press_check : Cal P w K mg base 6 "press_check" (sp_press_check C) []) (c_chain_settled_ends : Cal P w K mg base 2 "chain_settled_ends" (sp_chain_settled_ends C) []) (c_press_graph : Cal P w K mg base 5 "press_graph" (sp_press_graph C) []) :
    Cal P w K mg base 7 "chain_ends" (sp_chain_ends C) [] := by
  refine cal_of F (fn_js (S := sg_chain_ends C) (k := 6) F sc_chain_ends (fun _ => rfl) fun cdv A outer s H E hr => ⟨_, PSs.nox ((pss_cons (ps_expr (pe_c c_press_check hr (by decide) (by rfl) (pa_cons (pv 0) (pa_cons (pv 1) (pa_cons (pv 2) (pa_cons (pv 3) pa_nil))))))
    (pss_one (ps_ret (pe_c c_chain_settled_ends hr (by decide) (by rfl) (pa_cons (pe_c c_press_graph hr (by decide) (by rfl) (pa_cons (pv 0) (pa_cons (pv 1) (pa_cons (pv 2) (pa_cons (pv 3) pa_nil))))) pa_nil)))))), fun x hd => ?_⟩) m (fun _ _ _ _ _ _ us hl => match us, hl with | [_, _, _, _], _ => rfl)
  have hd2 : Dom4 x.1 x.2.1 x.2.2.1 x.2.2.2 := hd
  exact ⟨[], False, js_seq (js_drop (jd_call (S := sg_press_check C) x hd (ja_cons (jd_var rfl) (ja_cons (jd_var rfl) (ja_cons (jd_var rfl) (ja_cons (jd_var rfl) ja_nil)))))) fun _ =>
    js_ret (jd_call (S := sg_chain_settled_ends C) x hd2.dom1 (ja_cons (jd_call (S := sg_press_graph C) x ⟨hd2.two, hd2.hst, hd2.hpt⟩ (ja_cons (jd_var rfl) (ja_cons (jd_var rfl) (ja_cons (jd_var rfl) (ja_cons (jd_var rfl) ja_nil))))) ja_nil)), fun z => z.elim⟩

/-- a list of a graph's sets -/
def keysT (C : Cn) (a b : Ch) (st p : List Int) : VT := ⟨fun v H => ∃ ks, IsGraph a b st p ks ∧ (lsT C ks).P v H, fun e h => by
  obtain ⟨ks, h1, h2⟩ := h
  exact ⟨ks, h1, (lsT C ks).mono e h2⟩⟩
theorem keys_all {H : Hp} : ∀ {ks : List (List Int)} {kvs : List (List Key × V)} {bs : List Addr}, kvs.map (·.1) = ks.map keyOf → IsKeys H kvs bs → TpAll H (ks.map sD) (bs.map V.ref)
  | [], [], bs, _, r => by cases r; exact TpAll.nil
  | [], kv :: kvs, bs, e, _ => by simp at e
  | s :: ks, [], bs, e, _ => by simp at e
  | s :: ks, kv :: kvs, bs, e, r => by
    simp only [List.map_cons, List.cons.injEq] at e
    cases r with
    | cons r1 r2 =>
      refine TpAll.cons (tp_sD.mpr ⟨_, rfl, ?_⟩) (keys_all e.2 r2)
      rw [← keyOf_kV, ← e.1]
      exact r1
abbrev N_parts_behind : List Str := ["near", "far", "standing", "part"]
theorem sc_parts_behind : FnScope N_parts_behind ["near", "far", "standing", "part"] (defScope s_parts_behind) := ⟨rfl, rfl, rfl, by decide +kernel, rfl, by decide +kernel, by decide +kernel⟩
noncomputable def sg_parts_behind (C : Cn) : Sg (Ch × Ch × List Int × List Int) := ⟨fun x => Dom4 x.1 x.2.1 x.2.2.1 x.2.2.2, fun x => [cho C x.1, cho C x.2.1, dt (sD x.2.2.1), dt (sD x.2.2.2)], fun x => dt (setsD (behindL x.1 x.2.1 x.2.2.1 x.2.2.2))⟩
noncomputable def sp_parts_behind (C : Cn) : Sp := (sg_parts_behind C).sp
theorem ok_parts_behind {P : Program} {w : World} {K : PySem.W.Frag} {mg : Str → Option Value} {base : Heap} {C : Cn} {f : Addr} {fd : FuncData} (F : FunD K "parts_behind" "parts_behind" (defArgs s_parts_behind) (defBody s_parts_behind) (defScope s_parts_behind) [] [] f fd) (m : mg "parts_behind" = some (.ref f)) (T : Top K mg C) (c_press_check : Cal P w K mg base 6 "press_check" (sp_press_check C) []) (c_press_in_order : Cal P w K mg base 1 "press_in_order" (sp_press_in_order C) []) (c_press_graph : Cal P w K mg base 5 "press_graph" (sp_press_graph C) []) :
    Cal P w K mg base 7 "parts_behind" (sp_parts_behind C) [] := by
  refine cal_of F (fn_js (S := sg_parts_behind C) (k := 6) F sc_parts_behind (fun _ => rfl) fun cdv A outer s H E hr => ⟨_, PSs.nox ((pss_cons (ps_expr (pe_c c_press_check hr (by decide) (by rfl) (pa_cons (pv 0) (pa_cons (pv 1) (pa_cons (pv 2) (pa_cons (pv 3) pa_nil))))))
    (pss_one (ps_ret (pe_c c_press_in_order hr (by decide) (by rfl) (pa_cons (pe_callTy (call_list_dT rfl) (by rfl) T.list_ boot_list (pa_cons (pe_c c_press_graph hr (by decide) (by rfl) (pa_cons (pv 0) (pa_cons (pv 1) (pa_cons (pv 2) (pa_cons (pv 3) pa_nil))))) pa_nil)) pa_nil)))))), fun x hd => ?_⟩) m (fun _ _ _ _ _ _ us hl => match us, hl with | [_, _, _, _], _ => rfl)
  obtain ⟨a, b, st, p⟩ := x
  have hd : Dom4 a b st p := hd
  refine ⟨[], False, js_seq (js_drop (jd_call (S := sg_press_check C) (a, b, st, p) hd (ja_cons (jd_var rfl) (ja_cons (jd_var rfl) (ja_cons (jd_var rfl) (ja_cons (jd_var rfl) ja_nil)))))) fun _ =>
    js_ret (jd_callE (S := sg_press_in_order C) (ja_cons (jd_cb (T := keysT C a b st p) (ja_cons (jd_call (S := sg_press_graph C) (a, b, st, p) ⟨hd.two, hd.hst, hd.hpt⟩ (ja_cons (jd_var rfl) (ja_cons (jd_var rfl) (ja_cons (jd_var rfl) (ja_cons (jd_var rfl) ja_nil))))) ja_nil) fun vs H Q pf k => ?_) ja_nil) fun vs H pf => ?_), fun z => z.elim⟩
  · obtain ⟨v, rfl, pv⟩ := fits1 pf
    obtain ⟨ks, g, ⟨l, kvs, rfl, hl, hm⟩, tab⟩ := pv
    refine ⟨l, kvs, rfl, .inl hl, fun q bs hq hk => ?_⟩
    have e : Same H (upd H q (.lst (bs.map V.ref))) := same_upd hq
    have hk1 : kvs.map (·.1) = ks.map keyOf := by
      rw [hm.1]
      unfold gm
      rw [List.map_map]
      rfl
    exact k _ _ e ⟨ks, g, dt_lst upd_same (TpAll.mono e _ _ (keys_all hk1 hk)), tab.mono e⟩
  · obtain ⟨v, rfl, pv⟩ := fits1 pf
    obtain ⟨ks, g, pk⟩ := pv
    have few := g.few hd.two hd.hst hd.hpt
    refine ⟨ks, ⟨by omega, fun s hs => by
      have := len6 (reach_set hd.two hd.hst hd.hpt ((g.mem s).mp hs)) hd.two.few
      omega⟩, ⟨pk, trivial⟩, fun v H' q => ?_⟩
    have e := g.byS hd.two hd.hst hd.hpt fun _ => true
    rw [List.filter_eq_self.mpr (fun _ _ => rfl), List.filter_eq_self.mpr (fun _ _ => rfl)] at e
    have q : (dt (setsD (byS ks))).P v H' := q
    rw [e] at q
    exact q

/-! ### a chain's end -/
def optS : Option (List Int) → PyData
  | none => .none
  | some s => sD s
abbrev N_chain_end_of : List Str := ["near", "far", "standing", "part", "offers", "here", "offer"]
theorem sc_chain_end_of : FnScope N_chain_end_of ["near", "far", "standing", "part", "offers"] (defScope s_chain_end_of) := ⟨rfl, rfl, rfl, by decide +kernel, rfl, by decide +kernel, by decide +kernel⟩
def sg_chain_end_of (C : Cn) : Sg (Ch × Ch × List Int × List Int × List Int) := ⟨fun x => Dom1 x.1 x.2.1 x.2.2.1 x.2.2.2.1, fun x => [cho C x.1, cho C x.2.1, dt (sD x.2.2.1), dt (sD x.2.2.2.1), dt (sD x.2.2.2.2)], fun x => dt (optS (endOf x.1 x.2.1 x.2.2.1 x.2.2.2.1 x.2.2.2.2))⟩
def sp_chain_end_of (C : Cn) : Sp := (sg_chain_end_of C).sp
theorem ok_chain_end_of {P : Program} {w : World} {K : PySem.W.Frag} {mg : Str → Option Value} {base : Heap} {C : Cn} {f : Addr} {fd : FuncData} (F : FunD K "chain_end_of" "chain_end_of" (defArgs s_chain_end_of) (defBody s_chain_end_of) (defScope s_chain_end_of) [] [] f fd) (m : mg "chain_end_of" = some (.ref f)) (T : Top K mg C) (c_press_behind : Cal P w K mg base 3 "press_behind" (sp_press_behind C) []) (c_side_is_offer : Cal P w K mg base 2 "side_is_offer" (sp_side_is_offer C) []) (c_wished_beside : Cal P w K mg base 3 "wished_beside" (sp_wished_beside C) []) :
    Cal P w K mg base 4 "chain_end_of" (sp_chain_end_of C) [] := by
  refine cal_of F (fn_js (S := sg_chain_end_of C) (k := 3) F sc_chain_end_of (fun _ => rfl) fun cdv A outer s H E hr => ⟨_, PSs.nox ((pss_cons (ps_set (i := 5) sc_chain_end_of.nd rfl (Or.inl rfl) (pv 3))
    (pss_cons (ps_for PassesOwn.never rfl (i_seq (K := K) rfl (pv 4)) (pg_name (i := 6) sc_chain_end_of.nd rfl (Or.inl rfl)) (pss_cons (ps_if (pt_not (pt_val (pe_c c_side_is_offer hr (by decide) (by rfl) (pa_cons (pe_c c_wished_beside hr (by decide) (by rfl) (pa_cons (pv 0) (pa_cons (pv 1) (pa_cons (pv 2) (pa_cons (pv 5) pa_nil))))) (pa_cons (pv 6) pa_nil))))) (pss_one (ps_ret pe_non)) pss_nil)
    (pss_one (ps_set (i := 5) sc_chain_end_of.nd rfl (Or.inl rfl) (pe_c c_press_behind hr (by decide) (by rfl) (pa_cons (pv 0) (pa_cons (pv 1) (pa_cons (pv 5) (pa_cons (pv 6) pa_nil)))))))))
    (pss_one (ps_ret (pv 5)))))), fun x hd => ?_⟩) m (fun _ _ _ _ _ _ us hl => match us, hl with | [_, _, _, _, _], _ => rfl)
  obtain ⟨a, b, st, p, os⟩ := x
  have hd : Dom1 a b st p := hd
  let A5 : Gm := [some (cho C a), some (cho C b), some (dt (sD st)), some (dt (sD p)), some (dt (sD os))]
  let at_ : Nat → List Int := fun i => (endOf a b st p (os.take i)).getD []
  refine ⟨A5 ++ [none, none], False, js_seq (js_weak (js_asg (jd_var rfl)) (Γ2 := A5 ++ [some (dt (sD (at_ 0))), none]) ⟨rfl, rfl, rfl, rfl, rfl, rfl, trivial⟩) fun _ => js_seq (js_for (xs := os) (bind := fun o Γ => Γ.set 6 (some (dt (.int o)))) (Γs := fun i => A5 ++ [some (dt (sD (at_ i))), none]) (C := fun i => ∃ t, endOf a b st p (os.take i) = some t) (ji_ints (jd_var rfl)) (tg_name 6) ⟨p, rfl⟩ (fun i o ho hc => ?_)) (fun hc => js_ret ((jd_var rfl : Jd _ _ (dt (sD (at_ os.length)))).eq ?_)), fun z => z.elim⟩
  · obtain ⟨t, ht⟩ := hc
    have e1 : at_ i = t := by show (endOf a b st p (os.take i)).getD [] = t; rw [ht]; rfl
    have hs : IsSet a.n (at_ i) := by rw [e1]; exact reach_set hd.two hd.hst hd.hpt (endOf_reach ht)
    have nx := endOf_step ho ht
    refine js_seq (js_if (C := (wished a b st t).contains o = true) (Γ' := A5 ++ [some (dt (sD (at_ i))), some (dt (.int o))]) (jt_not (jt_B (jd_call (S := sg_side_is_offer C) (wished a b st (at_ i), o) trivial (ja_cons (jd_call (S := sg_wished_beside C) (a, b, st, at_ i) ⟨hd.two, hd.hst, hs⟩ (ja_cons (jd_var rfl) (ja_cons (jd_var rfl) (ja_cons (jd_var rfl) (ja_cons (jd_var rfl) ja_nil))))) (ja_cons (jd_var rfl) ja_nil))))) (fun h => js_ret (jd_non.eq ?_)) (fun h => js_next ?_)) fun hw => ?_
    · have hw : ¬ (wished a b st t).contains o = true := by
        rw [e1] at h
        intro z
        have h : (!(wished a b st t).contains o) = true := h
        rw [z] at h
        cases h
      rw [if_neg hw] at nx
      show PyData.none = optS (endOf a b st p os)
      have : endOf a b st p os = none := by
        rw [← List.take_append_drop (i + 1) os, endOf_app, nx]
        rfl
      rw [this]
      rfl
    · rw [e1] at h
      have h : (!(wished a b st t).contains o) = false := h
      cases z : (wished a b st t).contains o with
      | true => rfl
      | false => rw [z] at h; cases h
    · rw [if_pos hw] at nx
      have ho2 : 0 ≤ o ∧ o < (a.n : Int) := hd.hst.2 o (wished_in (by simpa using hw))
      refine js_end (js_asg (jd_call (S := sg_press_behind C) (a, b, at_ i, o) ⟨hd.two, hs, ho2⟩ (ja_cons (jd_var rfl) (ja_cons (jd_var rfl) (ja_cons (jd_var rfl) (ja_cons (jd_var rfl) ja_nil)))))) (fun _ => ⟨_, nx⟩) ⟨rfl, rfl, rfl, rfl, rfl, ?_, trivial⟩
      show some (dt (sD (pressB a b (at_ i) o))) = some (dt (sD (at_ (i + 1))))
      have : at_ (i + 1) = pressB a b t o := by show (endOf a b st p (os.take (i + 1))).getD [] = _; rw [nx]; rfl
      rw [this, e1]
  · obtain ⟨t, ht⟩ := hc
    show sD ((endOf a b st p (os.take os.length)).getD []) = optS (endOf a b st p os)
    rw [ht]
    rw [List.take_of_length_le (Nat.le_refl _)] at ht
    rw [ht]
    rfl

abbrev N_pressed_all : List Str := ["near", "far", "standing", "part", "offers", "here", "offer"]
theorem sc_pressed_all : FnScope N_pressed_all ["near", "far", "standing", "part", "offers"] (defScope s_pressed_all) := ⟨rfl, rfl, rfl, by decide +kernel, rfl, by decide +kernel, by decide +kernel⟩
def sg_pressed_all (C : Cn) : Sg (Ch × Ch × List Int × List Int × List Int × List Int) := ⟨fun x => Dom4 x.1 x.2.1 x.2.2.1 x.2.2.2.1 ∧ endOf x.1 x.2.1 x.2.2.1 x.2.2.2.1 x.2.2.2.2.1 = some x.2.2.2.2.2, fun x => [cho C x.1, cho C x.2.1, dt (sD x.2.2.1), dt (sD x.2.2.2.1), dt (sD x.2.2.2.2.1)], fun x => dt (sD x.2.2.2.2.2)⟩
def sp_pressed_all (C : Cn) : Sp := (sg_pressed_all C).sp
theorem ok_pressed_all {P : Program} {w : World} {K : PySem.W.Frag} {mg : Str → Option Value} {base : Heap} {C : Cn} {f : Addr} {fd : FuncData} (F : FunD K "pressed_all" "pressed_all" (defArgs s_pressed_all) (defBody s_pressed_all) (defScope s_pressed_all) [] [] f fd) (m : mg "pressed_all" = some (.ref f)) (T : Top K mg C) (c_press_check : Cal P w K mg base 6 "press_check" (sp_press_check C) []) (c_press_behind : Cal P w K mg base 3 "press_behind" (sp_press_behind C) []) (c_side_is_offer : Cal P w K mg base 2 "side_is_offer" (sp_side_is_offer C) []) (c_wished_beside : Cal P w K mg base 3 "wished_beside" (sp_wished_beside C) []) :
    Cal P w K mg base 7 "pressed_all" (sp_pressed_all C) [] := by
  refine cal_of F (fn_js (S := sg_pressed_all C) (k := 6) F sc_pressed_all (fun _ => rfl) fun cdv A outer s H E hr => ⟨_, PSs.nox ((pss_cons (ps_expr (pe_c c_press_check hr (by decide) (by rfl) (pa_cons (pv 0) (pa_cons (pv 1) (pa_cons (pv 2) (pa_cons (pv 3) pa_nil))))))
    (pss_cons (ps_set (i := 5) sc_pressed_all.nd rfl (Or.inl rfl) (pv 3))
    (pss_cons (ps_for PassesOwn.never rfl (i_seq (K := K) rfl (pv 4)) (pg_name (i := 6) sc_pressed_all.nd rfl (Or.inl rfl)) (pss_cons (ps_if (pt_not (pt_val (pe_c c_side_is_offer hr (by decide) (by rfl) (pa_cons (pe_c c_wished_beside hr (by decide) (by rfl) (pa_cons (pv 0) (pa_cons (pv 1) (pa_cons (pv 2) (pa_cons (pv 5) pa_nil))))) (pa_cons (pv 6) pa_nil))))) (pss_one ps_never) pss_nil)
    (pss_one (ps_set (i := 5) sc_pressed_all.nd rfl (Or.inl rfl) (pe_c c_press_behind hr (by decide) (by rfl) (pa_cons (pv 0) (pa_cons (pv 1) (pa_cons (pv 5) (pa_cons (pv 6) pa_nil)))))))))
    (pss_one (ps_ret (pv 5))))))), fun x hd => ?_⟩) m (fun _ _ _ _ _ _ us hl => match us, hl with | [_, _, _, _, _], _ => rfl)
  obtain ⟨a, b, st, p, os, en⟩ := x
  have hd : Dom4 a b st p ∧ endOf a b st p os = some en := hd
  obtain ⟨hd, hen⟩ := hd
  let A5 : Gm := [some (cho C a), some (cho C b), some (dt (sD st)), some (dt (sD p)), some (dt (sD os))]
  let at_ : Nat → List Int := fun i => (endOf a b st p (os.take i)).getD []
  refine ⟨A5 ++ [none, none], False, js_seq (js_drop (jd_call (S := sg_press_check C) (a, b, st, p) hd (ja_cons (jd_var rfl) (ja_cons (jd_var rfl) (ja_cons (jd_var rfl) (ja_cons (jd_var rfl) ja_nil)))))) fun _ => js_seq (js_weak (js_asg (jd_var rfl)) (Γ2 := A5 ++ [some (dt (sD (at_ 0))), none]) ⟨rfl, rfl, rfl, rfl, rfl, rfl, trivial⟩) fun _ => js_seq (js_for (xs := os) (bind := fun o Γ => Γ.set 6 (some (dt (.int o)))) (Γs := fun i => A5 ++ [some (dt (sD (at_ i))), none]) (C := fun i => ∃ t, endOf a b st p (os.take i) = some t) (ji_ints (jd_var rfl)) (tg_name 6) ⟨p, rfl⟩ (fun i o ho hc => ?_)) (fun hc => js_ret ((jd_var rfl : Jd _ _ (dt (sD (at_ os.length)))).eq ?_)), fun z => z.elim⟩
  · obtain ⟨t, ht⟩ := hc
    have e1 : at_ i = t := by show (endOf a b st p (os.take i)).getD [] = t; rw [ht]; rfl
    have hs : IsSet a.n (at_ i) := by rw [e1]; exact reach_set hd.two hd.hst hd.hpt (endOf_reach ht)
    have nx := endOf_step ho ht
    have hw : (wished a b st t).contains o = true := by
      cases z : (wished a b st t).contains o with
      | true => rfl
      | false =>
        rw [if_neg (by rw [z]; exact Bool.false_ne_true)] at nx
        rw [← List.take_append_drop (i + 1) os, endOf_app, nx] at hen
        cases hen
    rw [if_pos hw] at nx
    have ho2 : 0 ≤ o ∧ o < (a.n : Int) := hd.hst.2 o (wished_in (by simpa using hw))
    refine js_seq (js_guard (Jt.eq (jt_not (jt_B (jd_call (S := sg_side_is_offer C) (wished a b st (at_ i), o) trivial (ja_cons (jd_call (S := sg_wished_beside C) (a, b, st, at_ i) ⟨hd.two, hd.hst, hs⟩ (ja_cons (jd_var rfl) (ja_cons (jd_var rfl) (ja_cons (jd_var rfl) (ja_cons (jd_var rfl) ja_nil))))) (ja_cons (jd_var rfl) ja_nil))))) ?_)) fun _ => ?_
    · show (!(wished a b st (at_ i)).contains o) = false
      rw [e1, hw]
      rfl
    refine js_end (js_asg (jd_call (S := sg_press_behind C) (a, b, at_ i, o) ⟨hd.two, hs, ho2⟩ (ja_cons (jd_var rfl) (ja_cons (jd_var rfl) (ja_cons (jd_var rfl) (ja_cons (jd_var rfl) ja_nil)))))) (fun _ => ⟨_, nx⟩) ⟨rfl, rfl, rfl, rfl, rfl, ?_, trivial⟩
    show some (dt (sD (pressB a b (at_ i) o))) = some (dt (sD (at_ (i + 1))))
    have : at_ (i + 1) = pressB a b t o := by show (endOf a b st p (os.take (i + 1))).getD [] = _; rw [nx]; rfl
    rw [this, e1]
  · show sD ((endOf a b st p (os.take os.length)).getD []) = sD en
    rw [List.take_of_length_le (Nat.le_refl _), hen]
    rfl

abbrev N_chain_is_part : List Str := ["near", "far", "standing", "thing"]
theorem sc_chain_is_part : FnScope N_chain_is_part ["near", "far", "standing", "thing"] (defScope s_chain_is_part) := ⟨rfl, rfl, rfl, by decide +kernel, rfl, by decide +kernel, by decide +kernel⟩
def sg_chain_is_part (C : Cn) : Sg (Ch × Ch × List Int × List Int) := ⟨fun x => Dom1 x.1 x.2.1 x.2.2.1 x.2.2.2, fun x => [cho C x.1, cho C x.2.1, dt (sD x.2.2.1), dt (sD x.2.2.2)], fun x => dt (.bool ((x.2.2.2.all fun y => x.2.2.1.contains y) && agreedB x.1 x.2.1 x.2.2.2))⟩
def sp_chain_is_part (C : Cn) : Sp := (sg_chain_is_part C).sp
theorem ok_chain_is_part {P : Program} {w : World} {K : PySem.W.Frag} {mg : Str → Option Value} {base : Heap} {C : Cn} {f : Addr} {fd : FuncData} (F : FunD K "chain_is_part" "chain_is_part" (defArgs s_chain_is_part) (defBody s_chain_is_part) (defScope s_chain_is_part) [] [] f fd) (m : mg "chain_is_part" = some (.ref f)) (T : Top K mg C) (LC : LenOk P w K mg base C) (c_is_set : Cal P w K mg base 2 "is_set" (sp_is_set C) []) (c_side_is_part : Cal P w K mg base 1 "side_is_part" (sp_side_is_part C) []) (c_agreed_by : Cal P w K mg base 1 "agreed_by" (sp_agreed_by C) []) :
    Cal P w K mg base 3 "chain_is_part" (sp_chain_is_part C) [] := by
  refine cal_of F (fn_js (S := sg_chain_is_part C) (k := 2) F sc_chain_is_part (fun _ => rfl) fun cdv A outer s H E hr => ⟨_, PSs.nox ((pss_one (ps_ret (pe_and (pe_c c_is_set hr (by decide) (by rfl) (pa_cons (pe_callB (call_lenC LC (hr.mono (by decide))) (by rfl) T.len_ boot_len (pa_cons (pv 0) pa_nil)) (pa_cons (pv 3) pa_nil))) (pe_and (pe_c c_side_is_part hr (by decide) (by rfl) (pa_cons (pv 3) (pa_cons (pv 2) pa_nil))) (pe_one (pe_c c_agreed_by hr (by decide) (by rfl) (pa_cons (pv 0) (pa_cons (pv 1) (pa_cons (pv 3) pa_nil)))))))))), fun x hd => ?_⟩) m (fun _ _ _ _ _ _ us hl => match us, hl with | [_, _, _, _], _ => rfl)
  obtain ⟨a, b, st, s⟩ := x
  have hd : Dom1 a b st s := hd
  have h6 := hd.two.few
  have hl := len6 hd.hpt h6
  exact ⟨[], False, js_ret ((jd_and (jd_call (S := sg_is_set C) (a.n, s) hd.hpt (ja_cons (jd_lenCh (jd_var rfl) (by omega)) (ja_cons (jd_var rfl) ja_nil))) fun _ => jd_and (jd_call (S := sg_side_is_part C) (s, st) (show s.length ≤ 100 by omega) (ja_cons (jd_var rfl) (ja_cons (jd_var rfl) ja_nil))) fun _ =>
    jd_call (S := sg_agreed_by C) (a, b, s) ⟨hd.hpt, by show IsSet b.n s; rw [hd.two.bn]; exact hd.hpt⟩ (ja_cons (jd_var rfl) (ja_cons (jd_var rfl) (ja_cons (jd_var rfl) ja_nil)))).eq (by rw [Bool.true_and])), fun z => z.elim⟩
end Ost
set_option Elab.async false
set_option linter.all false
set_option maxRecDepth 100000
set_option maxHeartbeats 1000000
/-! D10: the first chain. -/
namespace Ost
open PySem PySem.Spec PyProof.Rows L2
open C8 (Cal pe_c Mak pe_mk Met pe_gc)

/-- a while: what it comes to is told only where it comes to -/
theorem jm_while2 {Γ' : Mm} {c : TT} {R : VT} {C : Prop} {β : Type} {tb : TS} {Γs : β → Mm} {P : β → Prop} {μ : β → Nat} {Cf : β → Prop} (x0 : β) (p0 : P x0)
    (hs : ∀ x, P x → ∃ b, Jt (vtG (Γs x)) c b ∧ (b = true → ∃ y C2, (C2 → P y ∧ μ y < μ x) ∧ Jm (Γs x) tb (Γs y) C2 R) ∧ (b = false → Cf x)) (hC : ∀ x, P x → Cf x → C ∧ Mle (Γs x) Γ') : Jm (Γs x0) (tWhile c tb) Γ' C R := fun H0 σ H ty D k r => by
  refine ⟨fun m σ' H' => ∃ x, P x ∧ μ x = m ∧ Fra (Γs x0) σ H (Γs x) σ' H' ∧ TyM H0 (Γs x) σ' H', ⟨_, x0, p0, rfl, Fra.refl, ty⟩, ?_⟩
  rintro m σ' H' ⟨x, px, rfl, f, ty'⟩
  obtain ⟨b, hb, h1, h2⟩ := hs x px
  refine hb σ' H' ty'.ty _ fun H1 e => ?_
  cases b with
  | true =>
    obtain ⟨y, C2, hy, hj⟩ := h1 rfl
    exact ⟨fun σ2 H2 => ∃ m', m' < μ x ∧ ∃ x, P x ∧ μ x = m' ∧ Fra (Γs x0) σ H (Γs x) σ2 H2 ∧ TyM H0 (Γs x) σ2 H2, fun σ2 H2 q => q, hj H0 σ' H1 (ty'.mono e) _ (fun c2 σ2 H2 f2 ty2 => ⟨μ y, (hy c2).2, y, (hy c2).1, rfl, (f.trans (Fra.same e)).trans f2, ty2⟩) r⟩
  | false =>
    obtain ⟨c1, g⟩ := hC x px (h2 rfl)
    exact k c1 σ' H1 ((f.trans (Fra.same e)).weak g) ((ty'.mono e).weak g)

def rowD (r : Row) : PyData := .tuple [sD r.1, sD r.2]
theorem noL_rowD (r : Row) : noL (rowD r) = true := by unfold rowD; rw [noL_tuple, noLs_cons, noLs_cons, noL_sD, noL_sD]; rfl
theorem noLs_map {α : Type} {f : α → PyData} (h : ∀ x, noL (f x) = true) (L : List α) : noLs (L.map f) = true := noLs_of fun d hd => by obtain ⟨x, _, rfl⟩ := List.mem_map.mp hd; exact h x
theorem sh_listOf {α : Type} {f : α → PyData} (h : ∀ x, Sh 10 (f x)) (L : List α) : SeqAt.shaped (.list (L.map f)) = true := (sh_lst (k := 10) fun d hd => by obtain ⟨x, _, rfl⟩ := List.mem_map.mp hd; exact h x).ok (by decide)
theorem eqv_nil_map {α : Type} {f : α → PyData} (L : List α) : PyData.eqv (.list (L.map f)) (.list []) = decide (L = []) := by
  cases L with
  | nil => simp [PyData.eqv, PyData.eqvAll]
  | cons s L => simp [PyData.eqv, PyData.eqvAll]
theorem Sh.up {k l : Nat} {d : PyData} (h : Sh k d) (e : k ≤ l) : Sh l d := ⟨h.1, Nat.le_trans h.2 e⟩
theorem sh_rowD (r : Row) : Sh 10 (rowD r) := (sh_tup (k := 1) fun d hd => by
  simp only [List.mem_cons, List.not_mem_nil, or_false] at hd
  rcases hd with rfl | rfl <;> exact sh_sD _).up (by decide)
/-- the sets met, as a dict -/
def metD (L : List (List Int)) : List (List Int × PyData) := L.map fun s => (s, .bool true)
theorem lookD_metD : ∀ {L : List (List Int)} {s : List Int}, lookD (metD L) s = if s ∈ L then some (.bool true) else none
  | [], s => rfl
  | t :: L, s => by
    have ih := lookD_metD (L := L) (s := s)
    unfold lookD metD at ih ⊢
    by_cases e : t = s
    · subst e
      rw [List.map_cons, List.find?_cons_of_pos (by simp), if_pos (List.mem_cons_self ..)]
      rfl
    · rw [List.map_cons, List.find?_cons_of_neg (by simpa using e), ih]
      have : s ∈ t :: L ↔ s ∈ L := ⟨fun h => (List.mem_cons.mp h).resolve_left fun z => e z.symm, List.mem_cons_of_mem _⟩
      by_cases h : s ∈ L
      · rw [if_pos h, if_pos (this.mpr h)]
      · rw [if_neg h, if_neg fun z => h (this.mp z)]

abbrev N_first_chain : List Str := ["near", "far", "standing", "part", "rows", "met", "further", "offers", "here", "presses", "offer", "behind"]
theorem sc_first_chain : FnScope N_first_chain ["near", "far", "standing", "part"] (defScope s_first_chain) := ⟨rfl, rfl, rfl, by decide +kernel, rfl, by decide +kernel, by decide +kernel⟩
def sg_first_chain (C : Cn) : Sg (Ch × Ch × List Int × List Int) := ⟨fun x => Dom4 x.1 x.2.1 x.2.2.1 x.2.2.2, fun x => [cho C x.1, cho C x.2.1, dt (sD x.2.2.1), dt (sD x.2.2.2)], fun x => dt (optS (firstChain x.1 x.2.1 x.2.2.1 x.2.2.2))⟩
def sp_first_chain (C : Cn) : Sp := (sg_first_chain C).sp
theorem ok_first_chain {P : Program} {w : World} {K : PySem.W.Frag} {mg : Str → Option Value} {base : Heap} {C : Cn} {f : Addr} {fd : FuncData} (F : FunD K "first_chain" "first_chain" (defArgs s_first_chain) (defBody s_first_chain) (defScope s_first_chain) [] [] f fd) (m : mg "first_chain" = some (.ref f)) (T : Top K mg C) (c_press_check : Cal P w K mg base 6 "press_check" (sp_press_check C) []) (c_press_moves : Cal P w K mg base 4 "press_moves" (sp_press_moves C) []) :
    Cal P w K mg base 7 "first_chain" (sp_first_chain C) [] := by
  refine cal_of F (fn_jm (S := sg_first_chain C) (k := 6) F sc_first_chain (fun _ => rfl) fun cdv A outer s H E hr => ⟨_, PSs.nox ((pss_cons (ps_expr (pe_c c_press_check hr (by decide) (by rfl) (pa_cons (pv 0) (pa_cons (pv 1) (pa_cons (pv 2) (pa_cons (pv 3) pa_nil))))))
    (pss_cons (ps_par (i := 4) (j := 5) (by rfl) sc_first_chain.nd rfl rfl (by decide) rfl rfl (pa_cons (pe_lst (pa_cons (pe_tup (pa_cons (pe_tup pa_nil) (pa_cons (pv 3) pa_nil))) pa_nil)) (pa_cons (pe_dispT (hu_of hr) (pv 3) pe_bl) pa_nil)) (by rfl))
    (pss_cons (ps_while PassesOwn.never (pt_cmpR (o_ne (K := K) rfl hr.units) (pv 4) (pe_lst pa_nil) (nomark _)) (pss_cons (ps_set (i := 6) sc_first_chain.nd rfl (Or.inl rfl) (pe_lst pa_nil))
    (pss_cons (ps_for PassesOwn.never rfl (i_seq (K := K) rfl (pv 4)) (g_tup (K := K) (n := 2) rfl (by rfl) (pgs_cons (pg_name (i := 7) sc_first_chain.nd rfl (Or.inl rfl)) (pgs_cons (pg_name (i := 8) sc_first_chain.nd rfl (Or.inl rfl)) pgs_nil))) (pss_cons (ps_set (i := 9) sc_first_chain.nd rfl (Or.inl rfl) (pe_c c_press_moves hr (by decide) (by rfl) (pa_cons (pv 0) (pa_cons (pv 1) (pa_cons (pv 2) (pa_cons (pv 8) pa_nil))))))
    (pss_cons (ps_if (pt_cmpR (o_eq (K := K) rfl hr.units) (pv 9) (pe_lst pa_nil) (nomark _)) (pss_one (ps_ret (pv 7))) pss_nil)
    (pss_one (ps_for PassesOwn.never rfl (i_seq (K := K) rfl (pv 9)) (g_tup (K := K) (n := 2) rfl (by rfl) (pgs_cons (pg_name (i := 10) sc_first_chain.nd rfl (Or.inl rfl)) (pgs_cons (pg_name (i := 11) sc_first_chain.nd rfl (Or.inl rfl)) pgs_nil))) (pss_one (ps_if (pt_cmp (pc_dnotin (hu_of hr) (pv 11) (pv 5))) (pss_cons (ps_dput (hu_of hr) (pv 5) (pv 11) pe_bl rfl)
    (pss_one (ps_expr (pe_bm PySem.F.plainAttrs_list PySem.F.slot_list_append PySem.F.type_list_append mt_append (pv 6) (pa_cons (pe_tup (pa_cons (pe_op (o_add (K := K) rfl) (pv 7) (pe_tup (pa_cons (pv 10) pa_nil))) (pa_cons (pv 11) pa_nil))) pa_nil))))) pss_nil)))))))
    (pss_one (ps_set (i := 4) sc_first_chain.nd rfl (Or.inl rfl) (pv 6))))))
    (pss_one (ps_ret pe_non)))))), fun x hd => ?_⟩) m (fun _ _ _ _ _ _ us hl => match us, hl with | [_, _, _, _], _ => rfl)
  obtain ⟨a, b, st, p⟩ := x
  have hd : Dom4 a b st p := hd
  let A4 : Mm := [some (.arg (cho C a)), some (.arg (cho C b)), some (.arg (dt (sD st))), some (.arg (dt (sD p)))]
  refine ⟨A4 ++ [none, none, none, none, none, none, none, none], False, jm_seq (jm_drop (jd_call (S := sg_press_check C) (a, b, st, p) hd (ja_cons (jd_var rfl) (ja_cons (jd_var rfl) (ja_cons (jd_var rfl) (ja_cons (jd_var rfl) ja_nil)))))) fun _ =>
    jm_seq (jm_par2 (mv_own (jf_lst (ds := [rowD ([], p)]) (ja_cons (jd_tup (ds := [sD [], sD p]) (ja_cons jd_nil (ja_cons (jd_var rfl) ja_nil)) (by simp)) ja_nil) (by simp)) (noLs_map noL_rowD [([], p)])) (mv_disp1 (s := p) (c := true) (jd_var rfl))) fun _ =>
    jm_seq (jm_while2 (Γ' := A4 ++ [none, none, none, none, none, none, none, none]) (Γs := fun x : Nat × List (List Int) × List Row => A4 ++ [some (.own (x.2.2.map rowD)), some (.dic (metD x.2.1)), none, none, none, none, none, none]) (P := fun x => Bf a b st p x.1 x.2.1 x.2.2 ∧ bfs a b st x.1 x.2.1 x.2.2 = firstChain a b st p) (μ := fun x => x.1) (Cf := fun x => x.2.2 = []) (C := firstChain a b st p = none) (65, [p], [([], p)]) ⟨Bf.start, rfl⟩ (fun x px => ?_) (fun x px cx => ?_)) (fun hn => jm_ret (jd_non.eq (by show PyData.none = optS (firstChain a b st p); rw [hn]; rfl))), fun z => z.elim⟩
  · obtain ⟨f, met, rows⟩ := x
    obtain ⟨B, hb⟩ := px
    have few := B.few hd.two hd.hst hd.hpt
    refine ⟨_, jt_test (jd_neD (jd_var (i := 4) (T := dt (.list (rows.map rowD))) rfl) (jd_of_jf (jf_lst (ds := []) ja_nil (by simp))) (sh_listOf sh_rowD rows) (sh_setsL [])), fun hne => ?_, fun he => ?_⟩
    · rw [eqv_nil_map] at hne
      have hne : rows ≠ [] := by simpa using hne
      have := B.fuel hne
      obtain ⟨g, rfl⟩ : ∃ g, f = g + 1 := ⟨f - 1, by omega⟩
      let at_ : Nat → List (List Int) × List Row := fun i => (rows.take i).foldl (rowIn a b st) (met, [])
      have hbf : bfs a b st (g + 1) met rows = match scan a b st rows (met, []) with
        | .inl os => some os
        | .inr acc => bfs a b st g acc.1 acc.2 := by rw [bfs, if_neg hne] <;> rfl
      have st_ : ∀ {i : Nat} {r : Row}, rows[i]? = some r → at_ (i + 1) = rowIn a b st (at_ i) r := fun {i r} hr => by
        show (rows.take (i + 1)).foldl _ _ = _
        rw [take_snoc hr, List.foldl_append]
        rfl
      have e0 : at_ 0 = (met, []) := by show (rows.take 0).foldl _ _ = _; rw [List.take_zero]; rfl
      refine ⟨(g, (at_ rows.length).1, (at_ rows.length).2), scan a b st rows (met, []) = scan a b st (rows.drop rows.length) (at_ rows.length) ∧ AccOk a b st p (65 - (g + 1)) met (rows.take rows.length) (at_ rows.length), fun c2 => ?_, ?_⟩
      · obtain ⟨c2, A⟩ := c2
        rw [List.take_of_length_le (Nat.le_refl _)] at A
        rw [List.drop_of_length_le (Nat.le_refl _)] at c2
        refine ⟨⟨B.next A hne, ?_⟩, Nat.lt_succ_self _⟩
        rw [hbf, c2] at hb
        exact hb
      · refine jm_seq (jm_new (jf_lst (ds := []) ja_nil (by simp)) rfl) fun _ => ?_
        refine jm_seq (jm_for (xs := rows) (Y := rowD) (bd := fun r Γ => (Γ.set 7 (some (.dat (sD r.1)))).set 8 (some (.dat (sD r.2)))) (Γs := fun i => A4 ++ [none, some (.dic (metD (at_ i).1)), some (.own ((at_ i).2.map rowD)), none, none, none, none, none]) (C := fun i => scan a b st rows (met, []) = scan a b st (rows.drop i) (at_ i) ∧ AccOk a b st p (65 - (g + 1)) met (rows.take i) (at_ i)) (isT := false)
          (by rw [e0]; exact src_own (j := 4) rfl) (fun r _ => noL_rowD r) (tm_pair (A := fun r : Row => sD r.1) (B := fun r => sD r.2) 7 8) ⟨by rw [e0]; rfl, by rw [e0]; exact B.acc⟩ (fun i r hr hc => ?_)) (fun hc => ?_)
        · obtain ⟨hc, A⟩ := hc
          obtain ⟨h1, h2, h3⟩ := B.row r (List.mem_of_getElem? hr)
          have hs : IsSet a.n r.2 := reach_set2 hd.two hd.hst hd.hpt (B.rm _ h3)
          have mvl : (movesOf a b st r.2).length ≤ 6 := by
            unfold movesOf
            rw [List.length_map]
            exact len6 (isSet_wished hd.hst) hd.two.few
          rw [scan_step hr] at hc
          refine jm_seq (jm_new (ds := (movesOf a b st r.2).map movD) (jf_call (S := sf_press_moves C) (a, b, st, r.2) ⟨hd.two, hd.hst, hs⟩ (ja_cons (jd_var rfl) (ja_cons (jd_var rfl) (ja_cons (jd_var rfl) (ja_cons (jd_var rfl) ja_nil))))) (noLs_map noL_movD _)) fun _ => ?_
          refine jm_seq (jm_if (C := movesOf a b st r.2 ≠ []) (Γ' := A4 ++ [none, some (.dic (metD (at_ i).1)), some (.own ((at_ i).2.map rowD)), some (.dat (sD r.1)), some (.dat (sD r.2)), some (.own ((movesOf a b st r.2).map movD)), none, none]) (jt_test (jd_eqD (jd_var (i := 9) (T := dt (.list ((movesOf a b st r.2).map movD))) rfl) (jd_of_jf (jf_lst (ds := []) ja_nil (by simp))) (sh_moves _) (sh_setsL []))) (fun hm => ?_) (fun hm => ?_)) fun hm => ?_
          · rw [eqv_nil_map, decide_eq_true_eq] at hm
            rw [if_pos hm] at hc
            rw [hbf, hc] at hb
            exact jm_ret ((jd_var (i := 7) rfl : Jd _ _ (dt (sD r.1))).eq (by show sD r.1 = optS (firstChain a b st p); rw [← hb]; rfl))
          · rw [eqv_nil_map, decide_eq_false_iff_not] at hm
            exact jm_next hm
          · rw [if_neg hm] at hc
            let in_ : Nat → List (List Int) × List Row := fun j => ((movesOf a b st r.2).take j).foldl (pressIn r.1) (at_ i)
            have i0 : in_ 0 = at_ i := by show (List.take 0 _).foldl _ _ = _; rw [List.take_zero]; rfl
            refine Jm.imp (jm_for (xs := movesOf a b st r.2) (Y := movD) (bd := fun x Γ => (Γ.set 10 (some (.dat (.int x.1)))).set 11 (some (.dat (sD x.2)))) (Γs := fun j => A4 ++ [none, some (.dic (metD (in_ j).1)), some (.own ((in_ j).2.map rowD)), some (.dat (sD r.1)), some (.dat (sD r.2)), none, none, none]) (C := fun j => AccOk a b st p (65 - (g + 1)) met (rows.take i) (in_ j)) (isT := false)
              (by rw [i0]; exact src_own (j := 9) rfl) (fun x _ => noL_movD x) (tm_pair (A := fun x : Int × List Int => .int x.1) (B := fun x => sD x.2) 10 11) (by rw [i0]; exact A) (fun j x hx hA => ?_)) (C1 := AccOk a b st p (65 - (g + 1)) met (rows.take i) (in_ (movesOf a b st r.2).length)) (fun hA => ?_) ?_
            · have mx := List.mem_of_getElem? hx
              obtain ⟨A2, _, _⟩ := hA.press h1 h2 mx
              have sj : in_ (j + 1) = pressIn r.1 (in_ j) x := by
                show ((movesOf a b st r.2).take (j + 1)).foldl _ _ = _
                rw [take_snoc hx, List.foldl_append]
                rfl
              rw [← sj] at A2
              have fj := hA.few hd.two hd.hst hd.hpt
              have lj := hA.len
              have pj : pressIn r.1 (in_ j) x = if x.2 ∈ (in_ j).1 then in_ j else ((in_ j).1 ++ [x.2], (in_ j).2 ++ [(r.1 ++ [x.1], x.2)]) := rfl
              refine jm_if (jt_B (jd_dnotin (m := metD (in_ j).1) (s := x.2) (jd_var (i := 11) rfl) (Jd.imp (jd_var (i := 5) (T := dicT (metD (in_ j).1)) rfl) fun v H h => dicT_F h))) (fun hn => ?_) (fun hn => ?_)
              · rw [lookD_metD] at hn
                have hin : x.2 ∉ (in_ j).1 := fun z => by rw [if_pos z] at hn; cases hn
                rw [if_neg hin] at pj
                rw [pj] at sj
                refine jm_seq (jm_dput (m := metD (in_ j).1) (s := x.2) (d := .bool true) (i := 5) rfl (jd_var (i := 11) rfl) jd_bl (by simp [noL]) (by rw [lookD_metD, if_neg hin]) (by unfold metD; rw [List.length_map]; omega)) fun _ => ?_
                refine Jm.imp (jm_append (ds := (in_ j).2.map rowD) (d := rowD (r.1 ++ [x.1], x.2)) (i := 6) rfl (jd_tup (ds := [sD (r.1 ++ [x.1]), sD x.2]) (ja_cons ((jd_cat (ds := r.1.map .int) (es := [.int x.1]) (jd_var (i := 7) rfl) (jd_one (jd_var (i := 10) rfl)) (by rw [List.length_map]; show r.1.length + 1 ≤ 1000; omega)).eq (by show PyData.tuple _ = PyData.tuple _; rw [List.map_append]; rfl)) (ja_cons (jd_var (i := 11) rfl) ja_nil)) (by simp)) (noL_rowD _) (by rw [List.length_map]; omega)) (fun _ => A2) ?_
                refine ⟨rfl, rfl, rfl, rfl, ?_, ?_, rfl, rfl, trivial⟩
                · rw [sj]
                  show some (MT.dic (metD (in_ j).1 ++ [(x.2, .bool true)])) = some (MT.dic (metD ((in_ j).1 ++ [x.2])))
                  unfold metD
                  rw [List.map_append]
                  rfl
                · rw [sj]
                  show some (MT.own ((in_ j).2.map rowD ++ [rowD (r.1 ++ [x.1], x.2)])) = some (MT.own (((in_ j).2 ++ [(r.1 ++ [x.1], x.2)]).map rowD))
                  rw [List.map_append]
                  rfl
              · rw [lookD_metD] at hn
                have hin : x.2 ∈ (in_ j).1 := by
                  cases Decidable.em (x.2 ∈ (in_ j).1) with
                  | inl z => exact z
                  | inr z => rw [if_neg z] at hn; cases hn
                rw [if_pos hin] at pj
                rw [pj] at sj
                refine Jm.imp (jm_next A2) id ?_
                exact ⟨rfl, rfl, rfl, rfl, by rw [sj], by rw [sj], rfl, rfl, trivial⟩
            · have fin : in_ (movesOf a b st r.2).length = at_ (i + 1) := by
                rw [st_ hr]
                show ((movesOf a b st r.2).take _).foldl _ _ = _
                rw [List.take_of_length_le (Nat.le_refl _)]
                rfl
              rw [fin] at hA
              refine ⟨by rw [hc, st_ hr], ?_⟩
              have := A.row h1 h2 hm
              rw [st_ hr, take_snoc hr]
              exact this
            · have fin : in_ (movesOf a b st r.2).length = at_ (i + 1) := by
                rw [st_ hr]
                show ((movesOf a b st r.2).take _).foldl _ _ = _
                rw [List.take_of_length_le (Nat.le_refl _)]
                rfl
              rw [fin]
              exact ⟨rfl, rfl, rfl, rfl, rfl, rfl, trivial⟩
        · exact Jm.imp (jm_move (i := 4) (j := 6) rfl rfl (by decide)) (fun _ => hc) ⟨rfl, rfl, rfl, rfl, rfl, rfl, trivial⟩
    · rw [eqv_nil_map] at he
      simpa using he
  · obtain ⟨f, met, rows⟩ := x
    obtain ⟨B, hb⟩ := px
    have cx : rows = [] := cx
    subst cx
    refine ⟨?_, rfl, rfl, rfl, rfl, trivial⟩
    rw [← hb]
    cases f with
    | zero => rfl
    | succ f => show bfs a b st (f + 1) met [] = none; rw [bfs, if_pos rfl]
end Ost
set_option Elab.async false
set_option linter.all false
set_option maxRecDepth 100000
set_option maxHeartbeats 1000000
/-! D11: chains judged; changes. -/
namespace Ost
open PySem PySem.Spec PyProof.Rows L2
open C8 (Cal pe_c Mak pe_mk Met pe_gc)

theorem sh_str1 (x : PySem.Str) (h : PyData.strOk x = true) : SeqAt.shaped (.str x) = true := (sh_str (k := 1) x h).ok (by decide)
section
variable {Γ : Gm} {ta tb te : TE} {K : PySem.W.Frag} {x y : PySem.Str}
theorem jd_eqStr (h1 : Jd Γ ta (dt (.str x))) (h2 : Jd Γ tb (dt (.str y))) (s1 : PyData.strOk x = true) (s2 : PyData.strOk y = true) : Jd Γ (tOp (rEqD K) ta tb) (dt (.bool (decide (x = y)))) := (jd_eqD h1 h2 (sh_str1 x s1) (sh_str1 y s2)).eq (by simp only [PyData.eqv, Bool.beq_eq_decide_eq])
theorem jd_neStr (h1 : Jd Γ ta (dt (.str x))) (h2 : Jd Γ tb (dt (.str y))) (s1 : PyData.strOk x = true) (s2 : PyData.strOk y = true) : Jd Γ (tOp (rNeD K) ta tb) (dt (.bool (!decide (x = y)))) := (jd_neD h1 h2 (sh_str1 x s1) (sh_str1 y s2)).eq (by simp only [PyData.eqv, Bool.beq_eq_decide_eq])
theorem jd_tupRg {n : Nat} (h : Jd Γ te (dt (.int n))) (hn : n ≤ 1000) : Jd Γ (tTupRg (tRg1 te)) (dt (sD (rgI 0 n))) := fun σ H ty Q k => h σ H ty _ fun v H1 e1 p => ⟨n, of_int p, ⟨by omega, by omega, by omega, by omega, by omega⟩, fun q hq => by
  refine k _ _ (e1.trans (same_upd hq)) (tp_sD.mpr ⟨q, rfl, ?_⟩)
  rw [upd_same]
  show some (HO.tup ((List.range ((n : Int) - 0).toNat).map fun i => V.int (0 + (i : Nat)))) = some (HO.tup (((List.range n).map fun (i : Nat) => (0 : Int) + (i : Int)).map V.int))
  rw [List.map_map, show ((n : Int) - 0).toNat = n by omega]
  rfl⟩
end
/-- ('chain', offers) -/
def chainD (os : List Int) : PyData := .tuple [.str "chain", sD os]

abbrev N_judge_chain : List Str := ["near", "far", "standing", "part", "offers"]
theorem sc_judge_chain : FnScope N_judge_chain ["near", "far", "standing", "part"] (defScope s_judge_chain) := ⟨rfl, rfl, rfl, by decide +kernel, rfl, by decide +kernel, by decide +kernel⟩
def sg_judge_chain (C : Cn) : Sg (Ch × Ch × List Int × List Int × List Int) := ⟨fun x => Dom4 x.1 x.2.1 x.2.2.1 x.2.2.2.1 ∧ firstChain x.1 x.2.1 x.2.2.1 x.2.2.2.1 = some x.2.2.2.2, fun x => [cho C x.1, cho C x.2.1, dt (sD x.2.2.1), dt (sD x.2.2.2.1)], fun x => dt (chainD x.2.2.2.2)⟩
def sp_judge_chain (C : Cn) : Sp := (sg_judge_chain C).sp
theorem ok_judge_chain {P : Program} {w : World} {K : PySem.W.Frag} {mg : Str → Option Value} {base : Heap} {C : Cn} {f : Addr} {fd : FuncData} (F : FunD K "judge_chain" "judge_chain" (defArgs s_judge_chain) (defBody s_judge_chain) (defScope s_judge_chain) [] [] f fd) (m : mg "judge_chain" = some (.ref f)) (T : Top K mg C) (c_first_chain : Cal P w K mg base 7 "first_chain" (sp_first_chain C) []) (c_press_graph : Cal P w K mg base 5 "press_graph" (sp_press_graph C) []) :
    Cal P w K mg base 8 "judge_chain" (sp_judge_chain C) [] := by
  refine cal_of F (fn_js (S := sg_judge_chain C) (k := 7) F sc_judge_chain (fun _ => rfl) fun cdv A outer s H E hr => ⟨_, PSs.nox ((pss_cons (ps_set (i := 4) sc_judge_chain.nd rfl (Or.inl rfl) (pe_c c_first_chain hr (by decide) (by rfl) (pa_cons (pv 0) (pa_cons (pv 1) (pa_cons (pv 2) (pa_cons (pv 3) pa_nil))))))
    (pss_cons (ps_if (pt_cmpR op_notN0 (pv 4) pe_non (nomark _)) (pss_one (ps_ret (pe_tup (pa_cons pe_str (pa_cons (pv 4) pa_nil))))) pss_nil)
    (pss_one ps_never)))), fun x hd => ?_⟩) m (fun _ _ _ _ _ _ us hl => match us, hl with | [_, _, _, _], _ => rfl)
  obtain ⟨a, b, st, p, os⟩ := x
  have hd : Dom4 a b st p ∧ firstChain a b st p = some os := hd
  obtain ⟨hd, hf⟩ := hd
  refine ⟨[some (cho C a), some (cho C b), some (dt (sD st)), some (dt (sD p)), some (dt (sD os))], False, js_seq (js_weak (js_asg (jd_call (S := sg_first_chain C) (a, b, st, p) hd (ja_cons (jd_var rfl) (ja_cons (jd_var rfl) (ja_cons (jd_var rfl) (ja_cons (jd_var rfl) ja_nil)))))) (Γ2 := [some (cho C a), some (cho C b), some (dt (sD st)), some (dt (sD p)), some (dt (sD os))]) ⟨rfl, rfl, rfl, rfl, ?_, trivial⟩) fun _ =>
    js_seq (js_if (C := False) (Γ' := [some (cho C a), some (cho C b), some (dt (sD st)), some (dt (sD p)), some (dt (sD os))]) (jt_test (jd_notN (jd_var (i := 4) rfl))) (fun _ => js_ret (jd_tup (ds := [.str "chain", sD os]) (ja_cons jd_str (ja_cons (jd_var (i := 4) rfl) ja_nil)) (by simp))) (fun h => by cases h)) fun z => z.elim, fun z => z.elim⟩
  show some (dt (optS (firstChain a b st p))) = some (dt (sD os))
  rw [hf]
  rfl

abbrev N_chain_holds : List Str := ["near", "far", "standing", "part", "thing", "end"]
theorem sc_chain_holds : FnScope N_chain_holds ["near", "far", "standing", "part", "thing"] (defScope s_chain_holds) := ⟨rfl, rfl, rfl, by decide +kernel, rfl, by decide +kernel, by decide +kernel⟩
def sg_chain_holds (C : Cn) : Sg (Ch × Ch × List Int × List Int × List Int × List Int) := ⟨fun x => Dom4 x.1 x.2.1 x.2.2.1 x.2.2.2.1 ∧ endOf x.1 x.2.1 x.2.2.1 x.2.2.2.1 x.2.2.2.2.1 = some x.2.2.2.2.2 ∧ wished x.1 x.2.1 x.2.2.1 x.2.2.2.2.2 = [], fun x => [cho C x.1, cho C x.2.1, dt (sD x.2.2.1), dt (sD x.2.2.2.1), dt (chainD x.2.2.2.2.1)], fun x => dt (.bool true)⟩
def sp_chain_holds (C : Cn) : Sp := (sg_chain_holds C).sp
theorem ok_chain_holds {P : Program} {w : World} {K : PySem.W.Frag} {mg : Str → Option Value} {base : Heap} {C : Cn} {f : Addr} {fd : FuncData} (F : FunD K "chain_holds" "chain_holds" (defArgs s_chain_holds) (defBody s_chain_holds) (defScope s_chain_holds) [] [] f fd) (m : mg "chain_holds" = some (.ref f)) (T : Top K mg C) (c_press_check : Cal P w K mg base 6 "press_check" (sp_press_check C) []) (c_chain_end_of : Cal P w K mg base 4 "chain_end_of" (sp_chain_end_of C) []) (c_wished_beside : Cal P w K mg base 3 "wished_beside" (sp_wished_beside C) []) :
    Cal P w K mg base 7 "chain_holds" (sp_chain_holds C) [] := by
  refine cal_of F (fn_js (S := sg_chain_holds C) (k := 6) F sc_chain_holds (fun _ => rfl) fun cdv A outer s H E hr => ⟨_, PSs.nox ((pss_cons (ps_expr (pe_c c_press_check hr (by decide) (by rfl) (pa_cons (pv 0) (pa_cons (pv 1) (pa_cons (pv 2) (pa_cons (pv 3) pa_nil))))))
    (pss_cons (ps_if (PW.pt (pw_or (pt_not (pt_val (pe_callB (c_isi (K := K) rfl) (by rfl) T.isinstance_ boot_isinstance (pa_cons (pv 4) (pa_cons (pe_bltn (v := .ty "tuple") (by rfl) T.tuple_ boot_tuple rfl) pa_nil))))) (pw_or1 (pt_cmpR (o_ne (K := K) rfl hr.units) (pe_callB (c_len (K := K) rfl) (by rfl) T.len_ boot_len (pa_cons (pv 4) pa_nil)) pe_int (nomark _))))) (pss_one (ps_ret pe_bl)) pss_nil)
    (pss_cons (ps_if (pt_cmpR (o_eq (K := K) rfl hr.units) (pe_ix (x_ix (K := K) rfl) (pv 4) pe_int (fun _ _ => rfl)) pe_str (nomark _)) (pss_one ps_never) pss_nil)
    (pss_cons (ps_if (PW.pt (pw_or (pt_cmpR (o_ne (K := K) rfl hr.units) (pe_ix (x_ix (K := K) rfl) (pv 4) pe_int (fun _ _ => rfl)) pe_str (nomark _)) (pw_or1 (pt_not (pt_val (pe_callB (c_isi (K := K) rfl) (by rfl) T.isinstance_ boot_isinstance (pa_cons (pe_ix (x_ix (K := K) rfl) (pv 4) pe_int (fun _ _ => rfl)) (pa_cons (pe_bltn (v := .ty "tuple") (by rfl) T.tuple_ boot_tuple rfl) pa_nil)))))))) (pss_one (ps_ret pe_bl)) pss_nil)
    (pss_cons (ps_set (i := 5) sc_chain_holds.nd rfl (Or.inl rfl) (pe_c c_chain_end_of hr (by decide) (by rfl) (pa_cons (pv 0) (pa_cons (pv 1) (pa_cons (pv 2) (pa_cons (pv 3) (pa_cons (pe_ix (x_ix (K := K) rfl) (pv 4) pe_int (fun _ _ => rfl)) pa_nil)))))))
    (pss_one (ps_ret (pe_and (pe_cmpR op_notN0 (pv 5) pe_non (nomark _)) (pe_one (pe_cmpR (o_eq (K := K) rfl hr.units) (pe_c c_wished_beside hr (by decide) (by rfl) (pa_cons (pv 0) (pa_cons (pv 1) (pa_cons (pv 2) (pa_cons (pv 5) pa_nil))))) (pe_tup pa_nil) (nomark _)))))))))))), fun x hd => ?_⟩) m (fun _ _ _ _ _ _ us hl => match us, hl with | [_, _, _, _, _], _ => rfl)
  obtain ⟨a, b, st, p, os, en⟩ := x
  have hd : Dom4 a b st p ∧ endOf a b st p os = some en ∧ wished a b st en = [] := hd
  obtain ⟨hd, hen, hw⟩ := hd
  have hs : IsSet a.n en := reach_set2 hd.two hd.hst hd.hpt (endOf_reach hen)
  let A5 : Gm := [some (cho C a), some (cho C b), some (dt (sD st)), some (dt (sD p)), some (dt (chainD os))]
  have at0 : ∀ {Γ : Gm}, Γ[4]? = some (some (dt (chainD os))) → Jd Γ (tOp (rIxA K) (tVar 4) (tC (.int 0))) (dt (.str "chain")) := fun {Γ} e => jd_ixT (ds := [.str "chain", sD os]) (jd_var e) jd_int rfl
  have at1 : ∀ {Γ : Gm}, Γ[4]? = some (some (dt (chainD os))) → Jd Γ (tOp (rIxA K) (tVar 4) (tC (.int 1))) (dt (sD os)) := fun {Γ} e => jd_ixT (ds := [.str "chain", sD os]) (jd_var e) jd_int rfl
  refine ⟨A5 ++ [none], False, js_seq (js_drop (jd_call (S := sg_press_check C) (a, b, st, p) hd (ja_cons (jd_var rfl) (ja_cons (jd_var rfl) (ja_cons (jd_var rfl) (ja_cons (jd_var rfl) ja_nil)))))) fun _ =>
    js_seq (js_guard (Jt.eq (jt_or (jt_not (jt_B (jd_isTup (ds := [.str "chain", sD os]) (jd_var (i := 4) rfl) jd_ty))) fun _ => jt_test (jd_neInt (jd_lenT (ds := [.str "chain", sD os]) (jd_var (i := 4) rfl)) jd_int)) (by rfl))) fun _ =>
    js_seq (js_guard (Jt.eq (jt_test (jd_eqStr (at0 rfl) jd_str (by decide +kernel) (by decide +kernel))) (by decide +kernel))) fun _ =>
    js_seq (js_guard (Jt.eq (jt_or (jt_test (jd_neStr (at0 rfl) jd_str (by decide +kernel) (by decide +kernel))) fun _ => jt_not (jt_B (jd_isTup (at1 rfl) jd_ty))) (by decide +kernel))) fun _ =>
    js_seq (js_weak (js_asg (jd_call (S := sg_chain_end_of C) (a, b, st, p, os) hd.dom1 (ja_cons (jd_var rfl) (ja_cons (jd_var rfl) (ja_cons (jd_var rfl) (ja_cons (jd_var rfl) (ja_cons (at1 rfl) ja_nil))))))) (Γ2 := A5 ++ [some (dt (sD en))]) ⟨rfl, rfl, rfl, rfl, rfl, ?_, trivial⟩) fun _ =>
    js_ret ((jd_and (jd_notN (jd_var (i := 5) (T := dt (sD en)) rfl)) fun _ => jd_eqSet (jd_call (S := sg_wished_beside C) (a, b, st, en) ⟨hd.two, hd.hst, hs⟩ (ja_cons (jd_var rfl) (ja_cons (jd_var rfl) (ja_cons (jd_var rfl) (ja_cons (jd_var (i := 5) (T := dt (sD en)) rfl) ja_nil))))) jd_nil).eq ?_), fun z => z.elim⟩
  · show some (dt (optS (endOf a b st p os))) = some (dt (sD en))
    rw [hen]
    rfl
  · show PyData.bool (true && decide (wished a b st en = [])) = PyData.bool true
    rw [hw]
    rfl

structure Dom5 (a b : Ch) (st p : List Int) : Prop extends Dom3 a b st p where
  se : settledB a b st p = true
theorem Dom5.ag {a b : Ch} {st p : List Int} (d : Dom5 a b st p) : agreedB a b p = true ∧ wished a b st p = [] := by
  have := d.se
  unfold settledB at this
  rw [Bool.and_eq_true, decide_eq_true_eq] at this
  exact this
abbrev N_change_check_settled : List Str := ["near", "far", "standing", "part"]
theorem sc_change_check_settled : FnScope N_change_check_settled ["near", "far", "standing", "part"] (defScope s_change_check_settled) := ⟨rfl, rfl, rfl, by decide +kernel, rfl, by decide +kernel, by decide +kernel⟩
def sg_change_check_settled (C : Cn) : Sg (Ch × Ch × List Int × List Int) := ⟨fun x => Dom5 x.1 x.2.1 x.2.2.1 x.2.2.2, fun x => [cho C x.1, cho C x.2.1, dt (sD x.2.2.1), dt (sD x.2.2.2)], fun x => dt .none⟩
def sp_change_check_settled (C : Cn) : Sp := (sg_change_check_settled C).sp
theorem ok_change_check_settled {P : Program} {w : World} {K : PySem.W.Frag} {mg : Str → Option Value} {base : Heap} {C : Cn} {f : Addr} {fd : FuncData} (F : FunD K "change_check_settled" "change_check_settled" (defArgs s_change_check_settled) (defBody s_change_check_settled) (defScope s_change_check_settled) [] [] f fd) (m : mg "change_check_settled" = some (.ref f)) (T : Top K mg C) (c_is_settled : Cal P w K mg base 6 "is_settled" (sp_is_settled C) []) :
    Cal P w K mg base 7 "change_check_settled" (sp_change_check_settled C) [] := by
  refine cal_of F (fn_js (S := sg_change_check_settled C) (k := 6) F sc_change_check_settled (fun _ => rfl) fun cdv A outer s H E hr => ⟨_, PSs.nox ((pss_one (ps_if (pt_not (pt_val (pe_c c_is_settled hr (by decide) (by rfl) (pa_cons (pv 0) (pa_cons (pv 1) (pa_cons (pv 2) (pa_cons (pv 3) pa_nil))))))) (pss_one ps_never) pss_nil))), fun x hd => ?_⟩) m (fun _ _ _ _ _ _ us hl => match us, hl with | [_, _, _, _], _ => rfl)
  obtain ⟨a, b, st, p⟩ := x
  have hd : Dom5 a b st p := hd
  refine ⟨_, True, js_guard (Jt.eq (jt_not (jt_B (jd_call (S := sg_is_settled C) (a, b, st, p) hd.toDom3 (ja_cons (jd_var rfl) (ja_cons (jd_var rfl) (ja_cons (jd_var rfl) (ja_cons (jd_var rfl) ja_nil))))))) ?_), fun _ H => dt_non⟩
  show (!settledB a b st p) = false
  rw [hd.se]
  rfl

abbrev N_change_check_new : List Str := ["near", "standing", "offer"]
theorem sc_change_check_new : FnScope N_change_check_new ["near", "standing", "offer"] (defScope s_change_check_new) := ⟨rfl, rfl, rfl, by decide +kernel, rfl, by decide +kernel, by decide +kernel⟩
def sg_change_check_new (C : Cn) : Sg (Ch × List Int × Int) := ⟨fun x => x.1.n ≤ 6 ∧ (0 ≤ x.2.2 ∧ x.2.2 < (x.1.n : Int)) ∧ x.2.2 ∉ x.2.1, fun x => [cho C x.1, dt (sD x.2.1), dt (.int x.2.2)], fun x => dt .none⟩
def sp_change_check_new (C : Cn) : Sp := (sg_change_check_new C).sp
theorem ok_change_check_new {P : Program} {w : World} {K : PySem.W.Frag} {mg : Str → Option Value} {base : Heap} {C : Cn} {f : Addr} {fd : FuncData} (F : FunD K "change_check_new" "change_check_new" (defArgs s_change_check_new) (defBody s_change_check_new) (defScope s_change_check_new) [] [] f fd) (m : mg "change_check_new" = some (.ref f)) (T : Top K mg C) (LC : LenOk P w K mg base C) (c_side_is_offer : Cal P w K mg base 2 "side_is_offer" (sp_side_is_offer C) []) :
    Cal P w K mg base 3 "change_check_new" (sp_change_check_new C) [] := by
  refine cal_of F (fn_js (S := sg_change_check_new C) (k := 2) F sc_change_check_new (fun _ => rfl) fun cdv A outer s H E hr => ⟨_, PSs.nox ((pss_one (ps_if (PW.pt (pw_or (pt_not (pt_val (pe_c c_side_is_offer hr (by decide) (by rfl) (pa_cons (pe_tupRg rfl (by rfl) T.tuple_ (prg_1 (by rfl) T.range_ (pe_callB (call_lenC LC (hr.mono (by decide))) (by rfl) T.len_ boot_len (pa_cons (pv 0) pa_nil)))) (pa_cons (pv 2) pa_nil))))) (pw_or1 (pt_cmpR (o_in (K := K) (w := w) rfl rfl (hu65 hr)) (pv 2) (pv 1) (by rfl))))) (pss_one ps_never) pss_nil))), fun x hd => ?_⟩) m (fun _ _ _ _ _ _ us hl => match us, hl with | [_, _, _], _ => rfl)
  obtain ⟨a, st, o⟩ := x
  have hd : a.n ≤ 6 ∧ (0 ≤ o ∧ o < (a.n : Int)) ∧ o ∉ st := hd
  obtain ⟨h6, ho, hn⟩ := hd
  refine ⟨_, True, js_guard (Jt.eq (jt_or (jt_not (jt_B (jd_call (S := sg_side_is_offer C) (rgI 0 a.n, o) trivial (ja_cons (jd_tupRg (jd_lenCh (jd_var rfl) (by omega)) (by omega)) (ja_cons (jd_var rfl) ja_nil))))) fun _ => jt_test (jd_inI (jd_var rfl) (jd_var rfl))) ?_), fun _ H => dt_non⟩
  show (!(rgI 0 a.n).contains o || st.contains o) = false
  have h1 : (rgI 0 a.n).contains o = true := by
    rw [List.contains_iff_mem, mem_rgI]
    omega
  have h2 : st.contains o = false := by simpa using hn
  rw [h1, h2]
  rfl

abbrev N_with_offer : List Str := ["near", "far", "standing", "part", "offer"]
theorem sc_with_offer : FnScope N_with_offer ["near", "far", "standing", "part", "offer"] (defScope s_with_offer) := ⟨rfl, rfl, rfl, by decide +kernel, rfl, by decide +kernel, by decide +kernel⟩
noncomputable def sg_with_offer (C : Cn) : Sg (Ch × Ch × List Int × List Int × Int) := ⟨fun x => Dom5 x.1 x.2.1 x.2.2.1 x.2.2.2.1 ∧ (0 ≤ x.2.2.2.2 ∧ x.2.2.2.2 < (x.1.n : Int)) ∧ x.2.2.2.2 ∉ x.2.2.1, fun x => [cho C x.1, cho C x.2.1, dt (sD x.2.2.1), dt (sD x.2.2.2.1), dt (.int x.2.2.2.2)], fun x => dt (setsD (endsL x.1 x.2.1 (withO x.2.2.1 x.2.2.2.2) x.2.2.2.1))⟩
noncomputable def sp_with_offer (C : Cn) : Sp := (sg_with_offer C).sp
theorem ok_with_offer {P : Program} {w : World} {K : PySem.W.Frag} {mg : Str → Option Value} {base : Heap} {C : Cn} {f : Addr} {fd : FuncData} (F : FunD K "with_offer" "with_offer" (defArgs s_with_offer) (defBody s_with_offer) (defScope s_with_offer) [] [] f fd) (m : mg "with_offer" = some (.ref f)) (T : Top K mg C) (c_change_check_settled : Cal P w K mg base 7 "change_check_settled" (sp_change_check_settled C) []) (c_change_check_new : Cal P w K mg base 3 "change_check_new" (sp_change_check_new C) []) (c_change_outcomes : Cal P w K mg base 6 "change_outcomes" (sp_change_outcomes C) []) (c_side_set_with : Cal P w K mg base 2 "side_set_with" (sp_side_set_with C) []) :
    Cal P w K mg base 8 "with_offer" (sp_with_offer C) [] := by
  refine cal_of F (fn_js (S := sg_with_offer C) (k := 7) F sc_with_offer (fun _ => rfl) fun cdv A outer s H E hr => ⟨_, PSs.nox ((pss_cons (ps_expr (pe_c c_change_check_settled hr (by decide) (by rfl) (pa_cons (pv 0) (pa_cons (pv 1) (pa_cons (pv 2) (pa_cons (pv 3) pa_nil))))))
    (pss_cons (ps_expr (pe_c c_change_check_new hr (by decide) (by rfl) (pa_cons (pv 0) (pa_cons (pv 2) (pa_cons (pv 4) pa_nil)))))
    (pss_one (ps_ret (pe_c c_change_outcomes hr (by decide) (by rfl) (pa_cons (pv 0) (pa_cons (pv 1) (pa_cons (pe_c c_side_set_with hr (by decide) (by rfl) (pa_cons (pv 2) (pa_cons (pv 4) pa_nil))) (pa_cons (pv 3) pa_nil)))))))))), fun x hd => ?_⟩) m (fun _ _ _ _ _ _ us hl => match us, hl with | [_, _, _, _, _], _ => rfl)
  obtain ⟨a, b, st, p, o⟩ := x
  have hd : Dom5 a b st p ∧ (0 ≤ o ∧ o < (a.n : Int)) ∧ o ∉ st := hd
  obtain ⟨hd, ho, hn⟩ := hd
  have h6 := hd.two.few
  have hl := len6 hd.hst h6
  exact ⟨[], False, js_seq (js_drop (jd_call (S := sg_change_check_settled C) (a, b, st, p) hd (ja_cons (jd_var rfl) (ja_cons (jd_var rfl) (ja_cons (jd_var rfl) (ja_cons (jd_var rfl) ja_nil)))))) fun _ =>
    js_seq (js_drop (jd_call (S := sg_change_check_new C) (a, st, o) ⟨h6, ho, hn⟩ (ja_cons (jd_var rfl) (ja_cons (jd_var rfl) (ja_cons (jd_var rfl) ja_nil))))) fun _ =>
    js_ret (jd_call (S := sg_change_outcomes C) (a, b, withO st o, p) ⟨hd.two, isSet_withO hd.hst ho, hd.hpt⟩ (ja_cons (jd_var rfl) (ja_cons (jd_var rfl) (ja_cons (jd_call (S := sg_side_set_with C) (st, o) (show st.length < 60 by omega) (ja_cons (jd_var rfl) (ja_cons (jd_var rfl) ja_nil))) (ja_cons (jd_var rfl) ja_nil))))), fun z => z.elim⟩

theorem isSet_without {n : Nat} {s : List Int} {o : Int} (h : IsSet n s) : IsSet n (without s o) := isSet_filter h _
abbrev N_without_offer : List Str := ["near", "far", "standing", "part", "offer"]
theorem sc_without_offer : FnScope N_without_offer ["near", "far", "standing", "part", "offer"] (defScope s_without_offer) := ⟨rfl, rfl, rfl, by decide +kernel, rfl, by decide +kernel, by decide +kernel⟩
noncomputable def sg_without_offer (C : Cn) : Sg (Ch × Ch × List Int × List Int × Int) := ⟨fun x => Dom5 x.1 x.2.1 x.2.2.1 x.2.2.2.1 ∧ x.2.2.2.2 ∈ x.2.2.1, fun x => [cho C x.1, cho C x.2.1, dt (sD x.2.2.1), dt (sD x.2.2.2.1), dt (.int x.2.2.2.2)], fun x => dt (setsD (endsL x.1 x.2.1 (without x.2.2.1 x.2.2.2.2) (without x.2.2.2.1 x.2.2.2.2)))⟩
noncomputable def sp_without_offer (C : Cn) : Sp := (sg_without_offer C).sp
theorem ok_without_offer {P : Program} {w : World} {K : PySem.W.Frag} {mg : Str → Option Value} {base : Heap} {C : Cn} {f : Addr} {fd : FuncData} (F : FunD K "without_offer" "without_offer" (defArgs s_without_offer) (defBody s_without_offer) (defScope s_without_offer) [] [] f fd) (m : mg "without_offer" = some (.ref f)) (T : Top K mg C) (c_change_check_settled : Cal P w K mg base 7 "change_check_settled" (sp_change_check_settled C) []) (c_change_outcomes : Cal P w K mg base 6 "change_outcomes" (sp_change_outcomes C) []) (c_side_is_offer : Cal P w K mg base 2 "side_is_offer" (sp_side_is_offer C) []) (c_side_set_without : Cal P w K mg base 1 "side_set_without" (sp_side_set_without C) []) :
    Cal P w K mg base 8 "without_offer" (sp_without_offer C) [] := by
  refine cal_of F (fn_js (S := sg_without_offer C) (k := 7) F sc_without_offer (fun _ => rfl) fun cdv A outer s H E hr => ⟨_, PSs.nox ((pss_cons (ps_expr (pe_c c_change_check_settled hr (by decide) (by rfl) (pa_cons (pv 0) (pa_cons (pv 1) (pa_cons (pv 2) (pa_cons (pv 3) pa_nil))))))
    (pss_cons (ps_if (pt_not (pt_val (pe_c c_side_is_offer hr (by decide) (by rfl) (pa_cons (pv 2) (pa_cons (pv 4) pa_nil))))) (pss_one ps_never) pss_nil)
    (pss_one (ps_ret (pe_c c_change_outcomes hr (by decide) (by rfl) (pa_cons (pv 0) (pa_cons (pv 1) (pa_cons (pe_c c_side_set_without hr (by decide) (by rfl) (pa_cons (pv 2) (pa_cons (pv 4) pa_nil))) (pa_cons (pe_c c_side_set_without hr (by decide) (by rfl) (pa_cons (pv 3) (pa_cons (pv 4) pa_nil))) pa_nil)))))))))), fun x hd => ?_⟩) m (fun _ _ _ _ _ _ us hl => match us, hl with | [_, _, _, _, _], _ => rfl)
  obtain ⟨a, b, st, p, o⟩ := x
  have hd : Dom5 a b st p ∧ o ∈ st := hd
  obtain ⟨hd, ho⟩ := hd
  have h6 := hd.two.few
  have hl := len6 hd.hst h6
  have hl2 := len6 hd.hpt h6
  refine ⟨[], False, js_seq (js_drop (jd_call (S := sg_change_check_settled C) (a, b, st, p) hd (ja_cons (jd_var rfl) (ja_cons (jd_var rfl) (ja_cons (jd_var rfl) (ja_cons (jd_var rfl) ja_nil)))))) fun _ =>
    js_seq (js_guard (Jt.eq (jt_not (jt_B (jd_call (S := sg_side_is_offer C) (st, o) trivial (ja_cons (jd_var rfl) (ja_cons (jd_var rfl) ja_nil))))) ?_)) fun _ =>
    js_ret (jd_call (S := sg_change_outcomes C) (a, b, without st o, without p o) ⟨hd.two, isSet_without hd.hst, isSet_without hd.hpt⟩ (ja_cons (jd_var rfl) (ja_cons (jd_var rfl) (ja_cons (jd_call (S := sg_side_set_without C) (st, o) (show st.length ≤ 100 by omega) (ja_cons (jd_var rfl) (ja_cons (jd_var rfl) ja_nil))) (ja_cons (jd_call (S := sg_side_set_without C) (p, o) (show p.length ≤ 100 by omega) (ja_cons (jd_var rfl) (ja_cons (jd_var rfl) ja_nil))) ja_nil))))), fun z => z.elim⟩
  show (!st.contains o) = false
  simp [ho]

abbrev N_is_touched : List Str := ["near", "far", "standing", "part", "offer"]
theorem sc_is_touched : FnScope N_is_touched ["near", "far", "standing", "part", "offer"] (defScope s_is_touched) := ⟨rfl, rfl, rfl, by decide +kernel, rfl, by decide +kernel, by decide +kernel⟩
def sg_is_touched (C : Cn) : Sg (Ch × Ch × List Int × List Int × Int) := ⟨fun x => Dom5 x.1 x.2.1 x.2.2.1 x.2.2.2.1 ∧ (0 ≤ x.2.2.2.2 ∧ x.2.2.2.2 < (x.1.n : Int)) ∧ x.2.2.2.2 ∉ x.2.2.1, fun x => [cho C x.1, cho C x.2.1, dt (sD x.2.2.1), dt (sD x.2.2.2.1), dt (.int x.2.2.2.2)], fun x => dt (.bool (!settledB x.1 x.2.1 (withO x.2.2.1 x.2.2.2.2) x.2.2.2.1))⟩
def sp_is_touched (C : Cn) : Sp := (sg_is_touched C).sp
theorem ok_is_touched {P : Program} {w : World} {K : PySem.W.Frag} {mg : Str → Option Value} {base : Heap} {C : Cn} {f : Addr} {fd : FuncData} (F : FunD K "is_touched" "is_touched" (defArgs s_is_touched) (defBody s_is_touched) (defScope s_is_touched) [] [] f fd) (m : mg "is_touched" = some (.ref f)) (T : Top K mg C) (c_change_check_settled : Cal P w K mg base 7 "change_check_settled" (sp_change_check_settled C) []) (c_change_check_new : Cal P w K mg base 3 "change_check_new" (sp_change_check_new C) []) (c_side_settled : Cal P w K mg base 4 "side_settled" (sp_side_settled C) []) (c_side_set_with : Cal P w K mg base 2 "side_set_with" (sp_side_set_with C) []) :
    Cal P w K mg base 8 "is_touched" (sp_is_touched C) [] := by
  refine cal_of F (fn_js (S := sg_is_touched C) (k := 7) F sc_is_touched (fun _ => rfl) fun cdv A outer s H E hr => ⟨_, PSs.nox ((pss_cons (ps_expr (pe_c c_change_check_settled hr (by decide) (by rfl) (pa_cons (pv 0) (pa_cons (pv 1) (pa_cons (pv 2) (pa_cons (pv 3) pa_nil))))))
    (pss_cons (ps_expr (pe_c c_change_check_new hr (by decide) (by rfl) (pa_cons (pv 0) (pa_cons (pv 2) (pa_cons (pv 4) pa_nil)))))
    (pss_one (ps_ret (pe_not (pe_c c_side_settled hr (by decide) (by rfl) (pa_cons (pv 0) (pa_cons (pv 1) (pa_cons (pe_c c_side_set_with hr (by decide) (by rfl) (pa_cons (pv 2) (pa_cons (pv 4) pa_nil))) (pa_cons (pv 3) pa_nil))))))))))), fun x hd => ?_⟩) m (fun _ _ _ _ _ _ us hl => match us, hl with | [_, _, _, _, _], _ => rfl)
  obtain ⟨a, b, st, p, o⟩ := x
  have hd : Dom5 a b st p ∧ (0 ≤ o ∧ o < (a.n : Int)) ∧ o ∉ st := hd
  obtain ⟨hd, ho, hn⟩ := hd
  have h6 := hd.two.few
  have hl := len6 hd.hst h6
  exact ⟨[], False, js_seq (js_drop (jd_call (S := sg_change_check_settled C) (a, b, st, p) hd (ja_cons (jd_var rfl) (ja_cons (jd_var rfl) (ja_cons (jd_var rfl) (ja_cons (jd_var rfl) ja_nil)))))) fun _ =>
    js_seq (js_drop (jd_call (S := sg_change_check_new C) (a, st, o) ⟨h6, ho, hn⟩ (ja_cons (jd_var rfl) (ja_cons (jd_var rfl) (ja_cons (jd_var rfl) ja_nil))))) fun _ =>
    js_ret (jd_not (jd_call (S := sg_side_settled C) (a, b, withO st o, p) ⟨hd.two, isSet_withO hd.hst ho, hd.hpt⟩ (ja_cons (jd_var rfl) (ja_cons (jd_var rfl) (ja_cons (jd_call (S := sg_side_set_with C) (st, o) (show st.length < 60 by omega) (ja_cons (jd_var rfl) (ja_cons (jd_var rfl) ja_nil))) (ja_cons (jd_var rfl) ja_nil)))))), fun z => z.elim⟩
end Ost
set_option Elab.async false
set_option linter.all false
set_option maxRecDepth 100000
set_option maxHeartbeats 1000000
/-! M4: sides: each offer belongs to a person, who ranks them; a chooser takes each person's best. -/
namespace Ost
structure Side (c : Ch) (p r : Int → Int) : Prop where
  inj : ∀ x y, (0 ≤ x ∧ x < (c.n : Int)) → (0 ≤ y ∧ y < (c.n : Int)) → p x = p y → r x = r y → x = y
  sel : ∀ s, IsSet c.n s → ∀ x, x ∈ c.f s ↔ x ∈ s ∧ ∀ y ∈ s, p y = p x → r x ≤ r y
  ok : ChOk c
section
variable {c : Ch} {p r : Int → Int}
/-- a person's best within a set -/
theorem best_in (r : Int → Int) (P : Int → Prop) : ∀ (s : List Int), (∃ x ∈ s, P x) → ∃ x ∈ s, P x ∧ ∀ y ∈ s, P y → r x ≤ r y
  | [], ⟨x, h, _⟩ => by cases h
  | z :: s, ⟨x, hx, px⟩ => by
    classical
    by_cases e : ∃ x ∈ s, P x
    · obtain ⟨y, hy, py, hm⟩ := best_in r P s e
      by_cases hz : P z
      · by_cases l : r z ≤ r y
        · refine ⟨z, List.mem_cons_self .., hz, fun w hw pw => ?_⟩
          rcases List.mem_cons.mp hw with rfl | hw
          · exact Int.le_refl _
          · exact Int.le_trans l (hm w hw pw)
        · refine ⟨y, List.mem_cons_of_mem _ hy, py, fun w hw pw => ?_⟩
          rcases List.mem_cons.mp hw with rfl | hw
          · omega
          · exact hm w hw pw
      · refine ⟨y, List.mem_cons_of_mem _ hy, py, fun w hw pw => ?_⟩
        rcases List.mem_cons.mp hw with rfl | hw
        · exact absurd pw hz
        · exact hm w hw pw
    · have hz : x = z := by
        rcases List.mem_cons.mp hx with q | q
        · exact q
        · exact absurd ⟨x, q, px⟩ e
      subst hz
      refine ⟨x, List.mem_cons_self .., px, fun w hw pw => ?_⟩
      rcases List.mem_cons.mp hw with rfl | hw
      · exact Int.le_refl _
      · exact absurd ⟨w, hw, pw⟩ e
theorem Side.best (S : Side c p r) {s : List Int} (hs : IsSet c.n s) {x : Int} (hx : x ∈ s) : ∃ y ∈ c.f s, p y = p x ∧ r y ≤ r x := by
  obtain ⟨y, hy, py, hm⟩ := best_in r (fun z => p z = p x) s ⟨x, hx, rfl⟩
  exact ⟨y, (S.sel s hs y).mpr ⟨hy, fun z hz pz => hm z hz (pz.trans py)⟩, py, hm x hx rfl⟩
theorem Side.set (S : Side c p r) {s : List Int} (hs : IsSet c.n s) : IsSet c.n (c.f s) := (S.ok s hs).1
theorem Side.sub (S : Side c p r) {s : List Int} (hs : IsSet c.n s) {x : Int} (hx : x ∈ c.f s) : x ∈ s := (S.ok s hs).2 x hx
/-- at most one for each person -/
theorem Side.one (S : Side c p r) {s : List Int} (hs : IsSet c.n s) {x y : Int} (hx : x ∈ c.f s) (hy : y ∈ c.f s) (e : p x = p y) : x = y := by
  obtain ⟨a1, a2⟩ := (S.sel s hs x).mp hx
  obtain ⟨b1, b2⟩ := (S.sel s hs y).mp hy
  exact S.inj x y (hs.2 x a1) (hs.2 y b1) e (Int.le_antisymm (a2 y b1 e.symm) (b2 x a1 e))
theorem set_ext {n : Nat} {s t : List Int} (hs : IsSet n s) (ht : IsSet n t) (h : ∀ x, x ∈ s ↔ x ∈ t) : s = t := asc_ext hs.1 ht.1 h
/-- of a smaller set one that was taken is taken -/
theorem Side.subst (S : Side c p r) {s t : List Int} (hs : IsSet c.n s) (ht : IsSet c.n t) (h : ∀ x ∈ s, x ∈ t) {x : Int} (hx : x ∈ s) (hc : x ∈ c.f t) : x ∈ c.f s := (S.sel s hs x).mpr ⟨hx, fun y hy py => ((S.sel t ht x).mp hc).2 y (h y hy) py⟩
/-- what is refused may go -/
theorem Side.cons (S : Side c p r) {s t : List Int} (hs : IsSet c.n s) (ht : IsSet c.n t) (h : ∀ x ∈ s, x ∈ t) (h2 : ∀ x ∈ c.f t, x ∈ s) : c.f s = c.f t := by
  refine set_ext (S.set hs) (S.set ht) fun x => ⟨fun hx => ?_, fun hx => S.subst hs ht h (h2 x hx) hx⟩
  obtain ⟨a1, a2⟩ := (S.sel s hs x).mp hx
  obtain ⟨y, hy, py, ry⟩ := S.best ht (h x a1)
  have := a2 y (h2 y hy) py
  have e : y = x := S.inj y x (ht.2 y (S.sub ht hy)) (hs.2 x a1) py (by omega)
  rw [← e]
  exact hy
theorem Side.idem (S : Side c p r) {t : List Int} (ht : IsSet c.n t) : c.f (c.f t) = c.f t := S.cons (S.set ht) ht (fun x hx => S.sub ht hx) fun x hx => hx
/-- kept whole: each person at most once -/
theorem Side.fix (S : Side c p r) {s : List Int} (hs : IsSet c.n s) : c.f s = s ↔ ∀ x ∈ s, ∀ y ∈ s, p x = p y → x = y := by
  constructor
  · intro h x hx y hy e
    exact S.one hs (by rw [h]; exact hx) (by rw [h]; exact hy) e
  · intro h
    refine set_ext (S.set hs) hs fun x => ⟨fun hx => S.sub hs hx, fun hx => (S.sel s hs x).mpr ⟨hx, fun y hy e => ?_⟩⟩
    rw [h y hy x hx e]
    exact Int.le_refl _
/-- never fewer of more -/
theorem Side.grow (S : Side c p r) {s t : List Int} (hs : IsSet c.n s) (ht : IsSet c.n t) (h : ∀ x ∈ s, x ∈ t) : (c.f s).length ≤ (c.f t).length := by
  have h1 : ((c.f s).map p).Nodup := by
    unfold List.Nodup
    rw [List.pairwise_map]
    exact (asc_nodup (S.set hs).1).imp_of_mem fun {x y} hx hy n e => n (S.one hs hx hy e)
  have := nodup_le h1 (ys := (c.f t).map p) fun z hz => by
    obtain ⟨x, hx, rfl⟩ := List.mem_map.mp hz
    obtain ⟨y, hy, py, _⟩ := S.best ht (h x (S.sub hs hx))
    exact List.mem_map.mpr ⟨y, hy, py⟩
  rw [List.length_map, List.length_map] at this
  exact this
/-- with one more offer: taken if its person has none, or prefers it -/
theorem Side.with_iff (S : Side c p r) {s : List Int} (hs : IsSet c.n s) {o : Int} (ho : 0 ≤ o ∧ o < (c.n : Int)) : o ∈ c.f (withO s o) ↔ ∀ y ∈ s, p y = p o → r o ≤ r y := by
  rw [S.sel _ (isSet_withO hs ho)]
  constructor
  · rintro ⟨_, h⟩ y hy e
    exact h y (mem_withO.mpr (.inl hy)) e
  · intro h
    refine ⟨mem_withO.mpr (.inr rfl), fun y hy e => ?_⟩
    rcases mem_withO.mp hy with q | q
    · exact h y q e
    · rw [q]; exact Int.le_refl _
end
/-! ### choosers of lists -/
/-- x's place in a row -/
def idxI (row : List Int) (x : Int) : Int := (row.idxOf x : Int)
theorem firstIn_iff {row s : List Int} {x : Int} (nd : row.Nodup) : firstIn row s = some x ↔ x ∈ row ∧ x ∈ s ∧ ∀ y ∈ row, y ∈ s → idxI row x ≤ idxI row y := by
  unfold firstIn
  induction row with
  | nil => simp
  | cons a row ih =>
    obtain ⟨h1, h2⟩ := List.nodup_cons.mp nd
    have key : ∀ z, z ∈ row → idxI (a :: row) z = idxI row z + 1 := fun z hz => by
      unfold idxI
      rw [List.idxOf_cons]
      have : (a == z) = false := by simp; rintro rfl; exact h1 hz
      rw [this]
      simp
    have k0 : idxI (a :: row) a = 0 := by unfold idxI; rw [List.idxOf_cons]; simp
    have nn : ∀ l z, 0 ≤ idxI l z := fun l z => Int.natCast_nonneg _
    by_cases ha : a ∈ s
    · rw [List.find?_cons_of_pos (by simpa using ha)]
      constructor
      · intro e
        cases e
        exact ⟨List.mem_cons_self .., ha, fun y hy _ => by rw [k0]; exact nn _ _⟩
      · rintro ⟨hx, _, hm⟩
        rcases List.mem_cons.mp hx with e | hx
        · rw [e]
        · have := hm a (List.mem_cons_self ..) ha
          rw [k0, key x hx] at this
          have := nn row x
          omega
    · rw [List.find?_cons_of_neg (by simpa using ha), ih h2]
      constructor
      · rintro ⟨hx, hs, hm⟩
        refine ⟨List.mem_cons_of_mem _ hx, hs, fun y hy hys => ?_⟩
        rcases List.mem_cons.mp hy with e | hy
        · rw [e] at hys; exact absurd hys ha
        · rw [key x hx, key y hy]
          have := hm y hy hys
          omega
      · rintro ⟨hx, hs, hm⟩
        have hx : x ∈ row := by
          rcases List.mem_cons.mp hx with e | hx
          · rw [e] at hs; exact absurd hs ha
          · exact hx
        refine ⟨hx, hs, fun y hy hys => ?_⟩
        have := hm y (List.mem_cons_of_mem _ hy) hys
        rw [key x hx, key y hy] at this
        omega
/-- the lists of persons: each has its own offers, in its order -/
structure Lists (n : Nat) (p : Int → Int) (rows : List (List Int)) : Prop where
  nd : ∀ row ∈ rows, row.Nodup
  mem : ∀ (i : Nat) (row : List Int), rows[i]? = some row → ∀ x, x ∈ row ↔ (0 ≤ x ∧ x < (n : Int)) ∧ p x = (i : Int)
  all : ∀ x, (0 ≤ x ∧ x < (n : Int)) → 0 ≤ p x ∧ p x < (rows.length : Int)
def rankL (p : Int → Int) (rows : List (List Int)) (x : Int) : Int := idxI (rows.getD (p x).toNat []) x
theorem Lists.side {n : Nat} {p : Int → Int} {rows : List (List Int)} (L : Lists n p rows) : Side (chL n rows) p (rankL p rows) := by
  have at_ : ∀ x, (0 ≤ x ∧ x < (n : Int)) → ∃ row, rows[(p x).toNat]? = some row ∧ rows.getD (p x).toNat [] = row ∧ x ∈ row := fun x hx => by
    have := L.all x hx
    have lt : (p x).toNat < rows.length := by omega
    refine ⟨rows[(p x).toNat], List.getElem?_eq_getElem lt, by rw [List.getD_eq_getElem?_getD, List.getElem?_eq_getElem lt]; rfl, (L.mem _ _ (List.getElem?_eq_getElem lt) x).mpr ⟨hx, by omega⟩⟩
  refine ⟨fun x y hx hy e er => ?_, fun s hs x => ?_, chL_ok n rows⟩
  · obtain ⟨row, h1, h2, h3⟩ := at_ x hx
    obtain ⟨row2, g1, g2, g3⟩ := at_ y hy
    rw [← e, h1] at g1
    cases g1
    unfold rankL idxI at er
    rw [← e, h2] at er
    have : row.idxOf x = row.idxOf y := by omega
    have i1 : row.idxOf x < row.length := List.idxOf_lt_length_of_mem h3
    have i2 : row.idxOf y < row.length := List.idxOf_lt_length_of_mem g3
    have e1 : row[row.idxOf x] = x := List.getElem_idxOf i1
    have e2 : row[row.idxOf y] = y := List.getElem_idxOf i2
    rw [← e1, ← e2]
    congr 1
  · show x ∈ firstsL rows s ↔ _
    rw [mem_firstsL]
    have hs : IsSet n s := hs
    constructor
    · rintro ⟨row, hr, hf⟩
      obtain ⟨a1, a2, a3⟩ := (firstIn_iff (L.nd row hr)).mp hf
      obtain ⟨i, hi⟩ := List.mem_iff_getElem?.mp hr
      have px := ((L.mem i row hi x).mp a1).2
      refine ⟨a2, fun y hy e => ?_⟩
      have hy2 : y ∈ row := (L.mem i row hi y).mpr ⟨hs.2 y hy, e.trans px⟩
      unfold rankL
      rw [e, px]
      have : rows.getD ((i : Int)).toNat [] = row := by rw [Int.toNat_natCast, List.getD_eq_getElem?_getD, hi]; rfl
      rw [this]
      exact a3 y hy2 hy
    · rintro ⟨h1, h2⟩
      obtain ⟨row, g1, g2, g3⟩ := at_ x (hs.2 x h1)
      have hr : row ∈ rows := List.mem_of_getElem? g1
      refine ⟨row, hr, (firstIn_iff (L.nd row hr)).mpr ⟨g3, h1, fun y hy hys => ?_⟩⟩
      have e : p y = p x := by
        have := ((L.mem _ row g1 y).mp hy).2
        have q := L.all x (hs.2 x h1)
        omega
      have := h2 y hys e
      unfold rankL at this
      rw [e, g2] at this
      exact this
end Ost
set_option Elab.async false
set_option linter.all false
set_option maxRecDepth 100000
set_option maxHeartbeats 1000000
/-! M5: from whatever is agreed, presses come to what is settled. -/
namespace Ost
structure Mkt (a b : Ch) (p r q t : Int → Int) : Prop where
  A : Side a p r
  B : Side b q t
  bn : b.n = a.n
  rp : ∀ x, 0 ≤ r x
  tp : ∀ x, 0 ≤ t x
/-- each person at most once, on both sides -/
structure Agr (a : Ch) (p q : Int → Int) (st s : List Int) : Prop where
  set : IsSet a.n s
  sub : ∀ x ∈ s, x ∈ st
  P : ∀ x ∈ s, ∀ y ∈ s, p x = p y → x = y
  Q : ∀ x ∈ s, ∀ y ∈ s, q x = q y → x = y
section
variable {a b : Ch} {p r q t : Int → Int} {st s : List Int} {o : Int}
theorem Mkt.agr (M : Mkt a b p r q t) (hs : IsSet a.n s) (hb : ∀ x ∈ s, x ∈ st) : agreedB a b s = true ↔ Agr a p q st s := by
  unfold agreedB
  rw [Bool.and_eq_true, decide_eq_true_eq, decide_eq_true_eq, M.A.fix hs, M.B.fix (by rw [M.bn]; exact hs)]
  exact ⟨fun h => ⟨hs, hb, h.1, h.2⟩, fun h => ⟨h.P, h.Q⟩⟩
theorem Mkt.wish (M : Mkt a b p r q t) (hst : IsSet a.n st) (hs : IsSet a.n s) : o ∈ wished a b st s ↔ o ∈ st ∧ o ∉ s ∧ (∀ y ∈ s, p y = p o → r o ≤ r y) ∧ ∀ y ∈ s, q y = q o → t o ≤ t y := by
  unfold wished
  rw [List.mem_filter]
  constructor
  · rintro ⟨h1, h2⟩
    have ho := hst.2 o h1
    simp only [Bool.and_eq_true, Bool.not_eq_true', List.contains_iff_mem] at h2
    have h3 : o ∉ s := by simpa using h2.1
    exact ⟨h1, h3, (M.A.with_iff hs ho).mp h2.2.1, (M.B.with_iff (by rw [M.bn]; exact hs) (by rw [M.bn]; exact ho)).mp h2.2.2⟩
  · rintro ⟨h1, h2, h3, h4⟩
    have ho := hst.2 o h1
    refine ⟨h1, ?_⟩
    simp only [Bool.and_eq_true, Bool.not_eq_true', List.contains_iff_mem]
    exact ⟨by simpa using h2, (M.A.with_iff hs ho).mpr h3, (M.B.with_iff (by rw [M.bn]; exact hs) (by rw [M.bn]; exact ho)).mpr h4⟩
/-- what a press leaves -/
theorem Mkt.press (M : Mkt a b p r q t) (hst : IsSet a.n st) (G : Agr a p q st s) (ho : o ∈ wished a b st s) (x : Int) : x ∈ pressB a b s o ↔ x = o ∨ (x ∈ s ∧ p x ≠ p o ∧ q x ≠ q o) := by
  obtain ⟨h1, h2, h3, h4⟩ := (M.wish hst G.set).mp ho
  have on := hst.2 o h1
  have hw := isSet_withO G.set on
  have hwb : IsSet b.n (withO s o) := by rw [M.bn]; exact hw
  have oa : o ∈ a.f (withO s o) := (M.A.with_iff G.set on).mpr h3
  have ob : o ∈ b.f (withO s o) := (M.B.with_iff (by rw [M.bn]; exact G.set) (by rw [M.bn]; exact on)).mpr h4
  unfold pressB
  rw [List.mem_filter, List.contains_iff_mem]
  constructor
  · rintro ⟨xa, xb⟩
    by_cases e : x = o
    · exact .inl e
    · have xs : x ∈ s := (mem_withO.mp (M.A.sub hw xa)).resolve_right e
      exact .inr ⟨xs, fun z => e (M.A.one hw xa oa z), fun z => e (M.B.one hwb xb ob z)⟩
  · rintro (rfl | ⟨xs, xp, xq⟩)
    · exact ⟨oa, ob⟩
    · refine ⟨(M.A.sel _ hw x).mpr ⟨mem_withO.mpr (.inl xs), fun y hy e => ?_⟩, (M.B.sel _ hwb x).mpr ⟨mem_withO.mpr (.inl xs), fun y hy e => ?_⟩⟩
      · rcases mem_withO.mp hy with z | z
        · rw [G.P y z x xs e]; exact Int.le_refl _
        · rw [z] at e; exact absurd e.symm xp
      · rcases mem_withO.mp hy with z | z
        · rw [G.Q y z x xs e]; exact Int.le_refl _
        · rw [z] at e; exact absurd e.symm xq
theorem Mkt.two_set (M : Mkt a b p r q t) (hst : IsSet a.n st) (G : Agr a p q st s) (ho : o ∈ wished a b st s) : IsSet a.n (pressB a b s o) :=
  isSet_filter (M.A.set (isSet_withO G.set (hst.2 o ((M.wish hst G.set).mp ho).1))) _
theorem Mkt.press_agr (M : Mkt a b p r q t) (hst : IsSet a.n st) (G : Agr a p q st s) (ho : o ∈ wished a b st s) : Agr a p q st (pressB a b s o) := by
  have pm := M.press hst G ho
  refine ⟨M.two_set hst G ho, fun x hx => ?_, fun x hx y hy e => ?_, fun x hx y hy e => ?_⟩
  · rcases (pm x).mp hx with z | z
    · rw [z]; exact ((M.wish hst G.set).mp ho).1
    · exact G.sub x z.1
  · rcases (pm x).mp hx with z | z <;> rcases (pm y).mp hy with w | w
    · rw [z, w]
    · rw [z] at e; exact absurd e.symm w.2.1
    · rw [w] at e; exact absurd e z.2.1
    · exact G.P x z.1 y w.1 e
  · rcases (pm x).mp hx with z | z <;> rcases (pm y).mp hy with w | w
    · rw [z, w]
    · rw [z] at e; exact absurd e.symm w.2.2
    · rw [w] at e; exact absurd e z.2.2
    · exact G.Q x z.1 y w.1 e
/-! ### sums of ranks -/
def sumR (r : Int → Int) (s : List Int) : Nat := (s.map fun x => (r x).toNat).sum
theorem sumR_cons (r : Int → Int) (x : Int) (s : List Int) : sumR r (x :: s) = (r x).toNat + sumR r s := by unfold sumR; rw [List.map_cons, List.sum_cons]
theorem sumR_perm {r : Int → Int} {s u : List Int} (h : s.Perm u) : sumR r s = sumR r u := by
  induction h with
  | nil => rfl
  | cons x _ ih => rw [sumR_cons, sumR_cons, ih]
  | swap x y l => rw [sumR_cons, sumR_cons, sumR_cons, sumR_cons]; omega
  | trans _ _ h1 h2 => rw [h1, h2]
/-- one in the place of another -/
theorem swap_perm {n : Nat} {s u : List Int} {x o : Int} (hs : IsSet n s) (hu : IsSet n u) (hx : x ∈ s) (ho : o ∉ s) (h : ∀ z, z ∈ u ↔ z = o ∨ (z ∈ s ∧ z ≠ x)) : u.Perm (o :: s.erase x) := by
  have nd := asc_nodup hs.1
  refine perm_of (asc_nodup hu.1) (List.nodup_cons.mpr ⟨fun z => ho (List.mem_of_mem_erase z), nd.erase x⟩) fun z => ?_
  rw [h, List.mem_cons, nd.mem_erase_iff]
  constructor
  · rintro (e | ⟨e1, e2⟩)
    · exact .inl e
    · exact .inr ⟨e2, e1⟩
  · rintro (e | ⟨e1, e2⟩)
    · exact .inl e
    · exact .inr ⟨e2, e1⟩
theorem swap_len {n : Nat} {s u : List Int} {x o : Int} (hs : IsSet n s) (hu : IsSet n u) (hx : x ∈ s) (ho : o ∉ s) (h : ∀ z, z ∈ u ↔ z = o ∨ (z ∈ s ∧ z ≠ x)) : u.length = s.length := by
  rw [(swap_perm hs hu hx ho h).length_eq, List.length_cons, List.length_erase_of_mem hx]
  have := List.length_pos_of_mem hx
  omega
theorem swap_sum {n : Nat} {s u : List Int} {x o : Int} (r : Int → Int) (hs : IsSet n s) (hu : IsSet n u) (hx : x ∈ s) (ho : o ∉ s) (h : ∀ z, z ∈ u ↔ z = o ∨ (z ∈ s ∧ z ≠ x)) (hr : r o < r x) (h0 : 0 ≤ r o) : sumR r u < sumR r s := by
  rw [sumR_perm (swap_perm hs hu hx ho h), sumR_perm (List.perm_cons_erase hx), sumR_cons, sumR_cons]
  omega
/-! ### first the matched ones of one side improve -/
/-- no one that is matched wishes for another -/
def Calm (a b : Ch) (p : Int → Int) (st s : List Int) : Prop := ∀ o ∈ wished a b st s, ∀ y ∈ s, p y ≠ p o
theorem Mkt.phase1 (M : Mkt a b p r q t) (hst : IsSet a.n st) (s : List Int) (G : Agr a p q st s) : ∃ u, Reach a b st s u ∧ Agr a p q st u ∧ Calm a b p st u := by
  classical
  by_cases c : Calm a b p st s
  · exact ⟨s, .refl, G, c⟩
  · unfold Calm at c
    simp only [Classical.not_forall, Decidable.not_not] at c
    obtain ⟨o, ho, y, hy, e⟩ := c
    obtain ⟨h1, h2, h3, h4⟩ := (M.wish hst G.set).mp ho
    have pm := M.press hst G ho
    have G2 := M.press_agr hst G ho
    have oy : o ≠ y := fun z => h2 (z ▸ hy)
    have lt : r o < r y := by
      have := h3 y hy e
      rcases Int.lt_or_eq_of_le this with l | l
      · exact l
      · exact absurd (M.A.inj o y (hst.2 o h1) (G.set.2 y hy) e.symm l) oy
    have step : Reach a b st s (pressB a b s o) := Reach.refl.step (moves_at.mpr ⟨ho, rfl⟩)
    have dec : (pressB a b s o).length < s.length ∨ ((pressB a b s o).length = s.length ∧ sumR r (pressB a b s o) < sumR r s) := by
      by_cases z : ∃ z ∈ s, z ≠ y ∧ q z = q o
      · obtain ⟨z, hz, zy, zq⟩ := z
        left
        have nd := asc_nodup G.set.1
        have h5 := nodup_le (xs := pressB a b s o) (ys := o :: (s.erase y).erase z) (asc_nodup G2.set.1) fun x hx => by
          rcases (pm x).mp hx with w | ⟨w1, w2, w3⟩
          · rw [w]; exact List.mem_cons_self ..
          · refine List.mem_cons_of_mem _ ((nd.erase y).mem_erase_iff.mpr ⟨fun k => w3 (k ▸ zq), nd.mem_erase_iff.mpr ⟨fun k => w2 (k ▸ e), w1⟩⟩)
        have hz2 : z ∈ s.erase y := nd.mem_erase_iff.mpr ⟨zy, hz⟩
        rw [List.length_cons, List.length_erase_of_mem hz2, List.length_erase_of_mem hy] at h5
        have h6 := List.length_pos_of_mem hz2
        rw [List.length_erase_of_mem hy] at h6
        omega
      · right
        have mem : ∀ x, x ∈ pressB a b s o ↔ x = o ∨ (x ∈ s ∧ x ≠ y) := fun x => by
          rw [pm]
          constructor
          · rintro (w | ⟨w1, w2, _⟩)
            · exact .inl w
            · exact .inr ⟨w1, fun k => w2 (k ▸ e)⟩
          · rintro (w | ⟨w1, w2⟩)
            · exact .inl w
            · exact .inr ⟨w1, fun k => w2 (G.P x w1 y hy (k.trans e.symm)), fun k => z ⟨x, w1, w2, k⟩⟩
        exact ⟨swap_len G.set G2.set hy h2 mem, swap_sum r G.set G2.set hy h2 mem lt (M.rp o)⟩
    obtain ⟨u, hu, Gu, Cu⟩ := M.phase1 hst (pressB a b s o) G2
    exact ⟨u, step.trans hu, Gu, Cu⟩
termination_by (s.length, sumR r s)
decreasing_by
  rcases dec with d | ⟨d1, d2⟩
  · exact Prod.Lex.left _ _ d
  · rw [d1]; exact Prod.Lex.right _ d2
/-! ### then the unmatched ones press their best -/
theorem Mkt.phase2 (M : Mkt a b p r q t) (hst : IsSet a.n st) (s : List Int) (G : Agr a p q st s) (C : Calm a b p st s) : ∃ u, Reach a b st s u ∧ Agr a p q st u ∧ wished a b st u = [] := by
  classical
  by_cases w0 : wished a b st s = []
  · exact ⟨s, .refl, G, w0⟩
  · obtain ⟨o1, ho1⟩ := List.exists_mem_of_ne_nil _ w0
    obtain ⟨o, ho, po, best⟩ := best_in r (fun x => p x = p o1) (wished a b st s) ⟨o1, ho1, rfl⟩
    obtain ⟨h1, h2, h3, h4⟩ := (M.wish hst G.set).mp ho
    have pm := M.press hst G ho
    have G2 := M.press_agr hst G ho
    have un := C o ho
    have step : Reach a b st s (pressB a b s o) := Reach.refl.step (moves_at.mpr ⟨ho, rfl⟩)
    -- what is wished for beside the new set was wished for before
    have was : ∀ w ∈ wished a b st (pressB a b s o), (∀ y ∈ s, p y = p w → r w ≤ r y) → w ∉ s → w ∈ wished a b st s := fun w hw hp hn => by
      obtain ⟨g1, g2, g3, g4⟩ := (M.wish hst G2.set).mp hw
      refine (M.wish hst G.set).mpr ⟨g1, hn, hp, fun y hy e => ?_⟩
      by_cases qo : q y = q o
      · have := h4 y hy qo
        have k := g4 o ((pm o).mpr (.inl rfl)) (qo.symm.trans e)
        omega
      · exact g4 y ((pm y).mpr (.inr ⟨hy, un y hy, qo⟩)) e
    have C2 : Calm a b p st (pressB a b s o) := fun w hw y hy e => by
      obtain ⟨g1, g2, g3, g4⟩ := (M.wish hst G2.set).mp hw
      rcases (pm y).mp hy with k | ⟨k1, k2, k3⟩
      · -- the one that pressed would press a better one
        rw [k] at e
        have ow : w ≠ o := fun z => g2 ((pm w).mpr (.inl z))
        have wn : w ∉ s := fun z => un w z e.symm
        have ws := was w hw (fun y hy e2 => absurd (e2.trans e.symm) (un y hy)) wn
        have l1 := best w ws (e.symm.trans po)
        have l2 := g3 o ((pm o).mpr (.inl rfl)) e
        exact ow (M.A.inj w o (hst.2 w g1) (hst.2 o h1) e.symm (by omega))
      · have wn : w ∉ s := fun z => by
          have := G.P w z y k1 e.symm
          exact g2 (this ▸ hy)
        refine C w (was w hw (fun y2 hy2 e2 => ?_) wn) y k1 e
        rw [G.P y2 hy2 y k1 (e2.trans e.symm)]
        exact g3 y hy e
    have le : ∀ {v : List Int}, IsSet a.n v → v.length ≤ a.n := fun h => isSet_len h
    have dec : a.n - (pressB a b s o).length < a.n - s.length ∨ (a.n - (pressB a b s o).length = a.n - s.length ∧ sumR t (pressB a b s o) < sumR t s) := by
      by_cases z : ∃ z ∈ s, q z = q o
      · obtain ⟨z, hz, zq⟩ := z
        right
        have mem : ∀ x, x ∈ pressB a b s o ↔ x = o ∨ (x ∈ s ∧ x ≠ z) := fun x => by
          rw [pm]
          constructor
          · rintro (w | ⟨w1, _, w2⟩)
            · exact .inl w
            · exact .inr ⟨w1, fun k => w2 (k ▸ zq)⟩
          · rintro (w | ⟨w1, w2⟩)
            · exact .inl w
            · exact .inr ⟨w1, un x w1, fun k => w2 (G.Q x w1 z hz (k.trans zq.symm))⟩
        have lt : t o < t z := by
          have := h4 z hz zq
          rcases Int.lt_or_eq_of_le this with l | l
          · exact l
          · have := M.B.inj o z (by rw [M.bn]; exact hst.2 o h1) (by rw [M.bn]; exact G.set.2 z hz) zq.symm l
            exact absurd hz (this ▸ h2)
        exact ⟨by rw [swap_len G.set G2.set hz h2 mem], swap_sum t G.set G2.set hz h2 mem lt (M.tp o)⟩
      · left
        have h5 := nodup_le (xs := o :: s) (ys := pressB a b s o) (List.nodup_cons.mpr ⟨h2, asc_nodup G.set.1⟩) fun x hx => by
          rcases List.mem_cons.mp hx with k | k
          · exact (pm x).mpr (.inl k)
          · exact (pm x).mpr (.inr ⟨k, un x k, fun w => z ⟨x, k, w⟩⟩)
        rw [List.length_cons] at h5
        have := le G2.set
        omega
    obtain ⟨u, hu, Gu, Cu⟩ := M.phase2 hst (pressB a b s o) G2 C2
    exact ⟨u, step.trans hu, Gu, Cu⟩
termination_by (a.n - s.length, sumR t s)
decreasing_by
  rcases dec with d | ⟨d1, d2⟩
  · exact Prod.Lex.left _ _ d
  · rw [d1]; exact Prod.Lex.right _ d2
/-- from whatever is agreed one comes to what is settled -/
theorem Mkt.settle (M : Mkt a b p r q t) (hst : IsSet a.n st) (G : Agr a p q st s) : ∃ u, Reach a b st s u ∧ Agr a p q st u ∧ wished a b st u = [] := by
  obtain ⟨u, h1, G1, C1⟩ := M.phase1 hst s G
  obtain ⟨v, h2, G2, w2⟩ := M.phase2 hst u G1 C1
  exact ⟨v, h1.trans h2, G2, w2⟩
theorem Mkt.reach_agr (M : Mkt a b p r q t) (hst : IsSet a.n st) (G : Agr a p q st s) {u : List Int} (h : Reach a b st s u) : Agr a p q st u := by
  induction h with
  | refl => exact G
  | step _ m ih =>
    obtain ⟨h1, h2⟩ := moves_at.mp m
    simp only at h1 h2
    rw [h2]
    exact M.press_agr hst ih h1
end
end Ost
set_option Elab.async false
set_option linter.all false
set_option maxRecDepth 100000
set_option maxHeartbeats 1000000
/-! M6: settled sets; the same persons in all of them; ends; changes. -/
namespace Ost
/-! ### the same persons are matched in all settled sets -/
structure Stb (p r q t : Int → Int) (st s : List Int) : Prop where
  sub : ∀ x ∈ s, x ∈ st
  P : ∀ x ∈ s, ∀ y ∈ s, p x = p y → x = y
  Q : ∀ x ∈ s, ∀ y ∈ s, q x = q y → x = y
  nb : ∀ o ∈ st, o ∉ s → (∃ y ∈ s, p y = p o ∧ r y < r o) ∨ ∃ y ∈ s, q y = q o ∧ t y < t o
theorem Stb.symm {p r q t : Int → Int} {st s : List Int} (h : Stb p r q t st s) : Stb q t p r st s := ⟨h.sub, h.Q, h.P, fun o ho hn => (h.nb o ho hn).symm⟩
/-- an injection between rows of distinct things -/
theorem inj_le {α β : Type} [DecidableEq β] (R : α → β → Prop) {X : List α} {Z : List β} (nd : X.Nodup) (to : ∀ x ∈ X, ∃ z ∈ Z, R x z) (inj : ∀ x ∈ X, ∀ y ∈ X, ∀ z, R x z → R y z → x = y) : X.length ≤ Z.length := by
  induction X generalizing Z with
  | nil => exact Nat.zero_le _
  | cons x X ih =>
    obtain ⟨h1, h2⟩ := List.nodup_cons.mp nd
    obtain ⟨z, hz, rz⟩ := to x (List.mem_cons_self ..)
    have := ih (Z := Z.erase z) h2 (fun y hy => by
      obtain ⟨w, hw, rw_⟩ := to y (List.mem_cons_of_mem _ hy)
      refine ⟨w, (List.mem_erase_of_ne fun e => ?_).mpr hw, rw_⟩
      subst e
      exact h1 (inj x (List.mem_cons_self ..) y (List.mem_cons_of_mem _ hy) _ rz rw_ ▸ hy)) fun a ha b hb => inj a (List.mem_cons_of_mem _ ha) b (List.mem_cons_of_mem _ hb)
    rw [List.length_erase_of_mem hz] at this
    have hp := List.length_pos_of_mem hz
    rw [List.length_cons]
    omega
theorem rural {p r q t : Int → Int} {st s u : List Int} (hs : Stb p r q t st s) (hu : Stb p r q t st u) (ns : s.Nodup) (nu : u.Nodup) : ∀ x ∈ u, ∃ y ∈ s, p y = p x := by
  classical
  intro x0 hx0
  refine Classical.byContradiction fun hno => ?_
  have un : ∀ y ∈ s, p y ≠ p x0 := fun y hy e => hno ⟨y, hy, e⟩
  -- offers of u whose house has it better there; offers of s whose taker has it better there
  let X := u.filter fun x => decide (x ∉ s ∧ ∀ y ∈ s, p y = p x → r x < r y)
  let Z := s.filter fun z => decide (z ∉ u ∧ ∀ y ∈ u, q y = q z → t z < t y)
  have mX : ∀ {x}, x ∈ X ↔ x ∈ u ∧ x ∉ s ∧ ∀ y ∈ s, p y = p x → r x < r y := fun {x} => by show x ∈ u.filter _ ↔ _; rw [List.mem_filter, decide_eq_true_eq]
  have mZ : ∀ {z}, z ∈ Z ↔ z ∈ s ∧ z ∉ u ∧ ∀ y ∈ u, q y = q z → t z < t y := fun {z} => by show z ∈ s.filter _ ↔ _; rw [List.mem_filter, decide_eq_true_eq]
  have le1 : X.length ≤ Z.length := by
    refine inj_le (fun x z => q z = q x) (nu.filter _) (fun x hx => ?_) fun x hx y hy z h1 h2 => hu.Q x (mX.mp hx).1 y (mX.mp hy).1 (h1.symm.trans h2)
    obtain ⟨h1, h2, h3⟩ := mX.mp hx
    rcases hs.nb x (hu.sub x h1) h2 with ⟨y, hy, e, l⟩ | ⟨z, hz, e, l⟩
    · have := h3 y hy e; omega
    · refine ⟨z, mZ.mpr ⟨hz, fun zu => ?_, fun y hy e2 => ?_⟩, e⟩
      · have := hu.Q z zu x h1 e
        rw [this] at hz
        exact h2 hz
      · rw [hu.Q y hy x h1 (e2.trans e)]; exact l
  have le2 : Z.length ≤ (X.erase x0).length := by
    refine inj_le (fun z x => p x = p z) (ns.filter _) (fun z hz => ?_) fun x hx y hy z h1 h2 => hs.P x (mZ.mp hx).1 y (mZ.mp hy).1 (h1.symm.trans h2)
    obtain ⟨h1, h2, h3⟩ := mZ.mp hz
    rcases hu.nb z (hs.sub z h1) h2 with ⟨x, hx, e, l⟩ | ⟨y, hy, e, l⟩
    · refine ⟨x, (List.mem_erase_of_ne fun k => un z h1 (by rw [← k]; exact e.symm)).mpr (mX.mpr ⟨hx, fun xs => ?_, fun y hy e2 => ?_⟩), e⟩
      · have := hs.P x xs z h1 e
        rw [this] at hx
        exact h2 hx
      · rw [hs.P y hy z h1 (e2.trans e)]; exact l
    · have := h3 y hy e; omega
  have h0 : x0 ∈ X := mX.mpr ⟨hx0, fun k => un x0 k rfl, fun y hy e => absurd e (un y hy)⟩
  rw [List.length_erase_of_mem h0] at le2
  have := List.length_pos_of_mem h0
  omega

section
variable {a b : Ch} {p r q t : Int → Int} {st s u : List Int} {o : Int}
theorem Mkt.stb (M : Mkt a b p r q t) (hst : IsSet a.n st) (G : Agr a p q st s) (w : wished a b st s = []) : Stb p r q t st s := by
  refine ⟨G.sub, G.P, G.Q, fun o ho hn => ?_⟩
  refine Classical.byContradiction fun hno => ?_
  have : o ∈ wished a b st s := (M.wish hst G.set).mpr ⟨ho, hn, fun y hy e => ?_, fun y hy e => ?_⟩
  · rw [w] at this; cases this
  · exact Int.not_lt.mp fun l => hno (.inl ⟨y, hy, e, l⟩)
  · exact Int.not_lt.mp fun l => hno (.inr ⟨y, hy, e, l⟩)
theorem Mkt.settled_iff (M : Mkt a b p r q t) (hs : IsSet a.n s) (hb : ∀ x ∈ s, x ∈ st) : settledB a b st s = true ↔ Agr a p q st s ∧ wished a b st s = [] := by
  unfold settledB
  rw [Bool.and_eq_true, decide_eq_true_eq, M.agr hs hb]
theorem Mkt.mem_settled (M : Mkt a b p r q t) (hst : IsSet a.n st) : s ∈ settledL a b st ↔ Agr a p q st s ∧ wished a b st s = [] := by
  rw [mem_settledL hst.1]
  constructor
  · rintro ⟨⟨h1, h2⟩, h3⟩
    exact (M.settled_iff (isSet_sub hst h1 h2) h2).mp h3
  · rintro ⟨G, w⟩
    exact ⟨⟨G.set.1, G.sub⟩, (M.settled_iff G.set G.sub).mpr ⟨G, w⟩⟩
/-- the houses, the takers of all settled sets -/
theorem Mkt.same_p (M : Mkt a b p r q t) (hst : IsSet a.n st) (h1 : s ∈ settledL a b st) (h2 : u ∈ settledL a b st) : (s.map p).Perm (u.map p) := by
  obtain ⟨G1, w1⟩ := (M.mem_settled hst).mp h1
  obtain ⟨G2, w2⟩ := (M.mem_settled hst).mp h2
  have S1 := M.stb hst G1 w1
  have S2 := M.stb hst G2 w2
  have nd : ∀ {v : List Int}, Agr a p q st v → (v.map p).Nodup := fun {v} G => by
    unfold List.Nodup
    rw [List.pairwise_map]
    exact (asc_nodup G.set.1).imp_of_mem fun {x y} hx hy n e => n (G.P x hx y hy e)
  refine perm_of (nd G1) (nd G2) fun z => ?_
  rw [List.mem_map, List.mem_map]
  constructor
  · rintro ⟨x, hx, rfl⟩
    exact rural S2 S1 (asc_nodup G2.set.1) (asc_nodup G1.set.1) x hx
  · rintro ⟨x, hx, rfl⟩
    exact rural S1 S2 (asc_nodup G1.set.1) (asc_nodup G2.set.1) x hx
theorem Mkt.same_q (M : Mkt a b p r q t) (hst : IsSet a.n st) (h1 : s ∈ settledL a b st) (h2 : u ∈ settledL a b st) : (s.map q).Perm (u.map q) := by
  obtain ⟨G1, w1⟩ := (M.mem_settled hst).mp h1
  obtain ⟨G2, w2⟩ := (M.mem_settled hst).mp h2
  have S1 := (M.stb hst G1 w1).symm
  have S2 := (M.stb hst G2 w2).symm
  have nd : ∀ {v : List Int}, Agr a p q st v → (v.map q).Nodup := fun {v} G => by
    unfold List.Nodup
    rw [List.pairwise_map]
    exact (asc_nodup G.set.1).imp_of_mem fun {x y} hx hy n e => n (G.Q x hx y hy e)
  refine perm_of (nd G1) (nd G2) fun z => ?_
  rw [List.mem_map, List.mem_map]
  constructor
  · rintro ⟨x, hx, rfl⟩
    exact rural S2 S1 (asc_nodup G2.set.1) (asc_nodup G1.set.1) x hx
  · rintro ⟨x, hx, rfl⟩
    exact rural S1 S2 (asc_nodup G1.set.1) (asc_nodup G2.set.1) x hx
/-! ### ends -/
theorem stuck_iff : stuckB a b st s = true ↔ wished a b st s = [] := by
  unfold stuckB movesOf
  rw [decide_eq_true_eq, List.map_eq_nil_iff]
theorem mem_endsL (D : Dom1 a b st s) : u ∈ endsL a b st s ↔ Reach a b st s u ∧ wished a b st u = [] := by
  unfold endsL
  rw [mem_byS, List.mem_filter, mem_reachL D.two D.hst D.hpt, stuck_iff]
theorem mem_behindL (D : Dom1 a b st s) : u ∈ behindL a b st s ↔ Reach a b st s u := by
  unfold behindL
  rw [mem_byS, mem_reachL D.two D.hst D.hpt]
/-- the settled ones among those behind: the ends -/
theorem Mkt.behind_ends (M : Mkt a b p r q t) (D : Dom1 a b st s) (G : Agr a p q st s) : (behindL a b st s).filter (settledB a b st) = endsL a b st s := by
  unfold behindL endsL
  rw [byS_filter]
  congr 1
  refine List.filter_congr fun u hu => ?_
  have h := (mem_reachL D.two D.hst D.hpt).mp hu
  have Gu := M.reach_agr D.hst G h
  rw [Bool.eq_iff_iff, stuck_iff, M.settled_iff Gu.set Gu.sub]
  exact ⟨fun z => z.2, fun z => ⟨Gu, z⟩⟩
theorem Mkt.ends_ne (M : Mkt a b p r q t) (D : Dom1 a b st s) (G : Agr a p q st s) : endsL a b st s ≠ [] := fun e => by
  obtain ⟨u, h1, _, h2⟩ := M.settle D.hst G
  have := (mem_endsL D).mpr ⟨h1, h2⟩
  rw [e] at this
  cases this
theorem Mkt.ends_settled (M : Mkt a b p r q t) (D : Dom1 a b st s) (G : Agr a p q st s) (h : u ∈ endsL a b st s) : u ∈ settledL a b st := by
  obtain ⟨h1, h2⟩ := (mem_endsL D).mp h
  exact (M.mem_settled D.hst).mpr ⟨M.reach_agr D.hst G h1, h2⟩
/-- the first chain -/
theorem Mkt.chain (M : Mkt a b p r q t) (D : Dom1 a b st s) (G : Agr a p q st s) : ∃ os e, firstChain a b st s = some os ∧ endOf a b st s os = some e ∧ wished a b st e = [] := by
  obtain ⟨u, h1, _, h2⟩ := M.settle D.hst G
  obtain ⟨os, e, g1, g2, g3⟩ := firstChain_some D.two D.hst D.hpt ⟨u, h1, by unfold movesOf; rw [h2]; rfl⟩
  refine ⟨os, e, g1, g2, ?_⟩
  unfold movesOf at g3
  exact List.map_eq_nil_iff.mp g3
/-! ### changes -/
theorem wished_less {st2 : List Int} (h : ∀ x ∈ st2, x ∈ st) (w : wished a b st s = []) : wished a b st2 s = [] := by
  refine List.eq_nil_iff_forall_not_mem.mpr fun o ho => ?_
  unfold wished at w ho
  obtain ⟨h1, h2⟩ := List.mem_filter.mp ho
  have : o ∈ List.filter (fun o => !s.contains o && ((a.f (withO s o)).contains o && (b.f (withO s o)).contains o)) st := List.mem_filter.mpr ⟨h o h1, h2⟩
  rw [w] at this
  cases this
/-- nothing is behind what is settled but itself -/
theorem ends_self (D : Dom1 a b st s) (w : wished a b st s = []) : endsL a b st s = [s] := by
  have key : ∀ v, Reach a b st s v → v = s := fun v h => by
    induction h with
    | refl => rfl
    | step _ m ih =>
      obtain ⟨h1, _⟩ := moves_at.mp m
      rw [ih, w] at h1
      cases h1
  have nd : (endsL a b st s).Nodup := byS_nodup ((reachL_nodup D.two).filter _)
  have hp : (endsL a b st s).Perm [s] := perm_of nd (by simp) fun v => by
    rw [mem_endsL D, List.mem_singleton]
    exact ⟨fun h => key v h.1, fun h => by rw [h]; exact ⟨.refl, w⟩⟩
  exact List.perm_singleton.mp hp
theorem without_self (h : o ∉ s) : without s o = s := by
  unfold without
  exact List.filter_eq_self.mpr fun x hx => by
    have : x ≠ o := fun e => h (e ▸ hx)
    simp [this]
theorem mem_without {x : Int} : x ∈ without s o ↔ x ∈ s ∧ x ≠ o := by
  unfold without
  rw [List.mem_filter]
  simp
theorem Agr.less (G : Agr a p q st s) : Agr a p q (without st o) (Ost.without s o) := ⟨isSet_filter G.set _, fun x hx => mem_without.mpr ⟨G.sub x (mem_without.mp hx).1, (mem_without.mp hx).2⟩, fun x hx y hy => G.P x (mem_without.mp hx).1 y (mem_without.mp hy).1, fun x hx y hy => G.Q x (mem_without.mp hx).1 y (mem_without.mp hy).1⟩
theorem Agr.withSt (G : Agr a p q st s) : Agr a p q (withO st o) s := ⟨G.set, fun x hx => mem_withO.mpr (.inl (G.sub x hx)), G.P, G.Q⟩
end
end Ost
set_option Elab.async false
set_option linter.all false
set_option maxRecDepth 100000
set_option maxHeartbeats 1000000
/-! M7: rounds of offers come to what is settled. -/
namespace Ost
def minus (s u : List Int) : List Int := s.filter fun x => !u.contains x
theorem mem_minus {s u : List Int} {x : Int} : x ∈ minus s u ↔ x ∈ s ∧ x ∉ u := by
  unfold minus
  rw [List.mem_filter]
  simp
def ndP (a : Ch) (st R : List Int) : List Int := a.f (minus st R)
def ndE (a : Ch) (st E R : List Int) : List Int := tog E (ndP a st R)
def ndK (a b : Ch) (st E R : List Int) : List Int := b.f (ndE a st E R)
def ndR (a b : Ch) (st E R : List Int) : List Int := minus (ndE a st E R) (ndK a b st E R)
structure RdSt (a b : Ch) (st E R : List Int) : Prop where
  eset : IsSet a.n E
  esub : ∀ x ∈ E, x ∈ st
  rset : IsSet a.n R
  rE : ∀ x, x ∈ R ↔ x ∈ E ∧ x ∉ b.f E
  inA : ∀ x ∈ E, x ∉ R → x ∈ a.f (minus st R)
theorem RdSt.start (a b : Ch) (st : List Int) : RdSt a b st [] [] := ⟨isSet_nil _, fun x h => (by cases h), isSet_nil _, fun x => ⟨fun h => (by cases h), fun h => (by cases h.1)⟩, fun x h => (by cases h)⟩
section
variable {a b : Ch} {p r q t : Int → Int} {st E R : List Int}
theorem minus_set {n : Nat} {s u : List Int} (h : IsSet n s) : IsSet n (minus s u) := isSet_filter h _
theorem RdSt.pset (M : Mkt a b p r q t) (hst : IsSet a.n st) : IsSet a.n (ndP a st R) := M.A.set (minus_set hst)
theorem RdSt.nset (M : Mkt a b p r q t) (hst : IsSet a.n st) (S : RdSt a b st E R) : IsSet a.n (ndE a st E R) := isSet_tog S.eset (RdSt.pset M hst)
theorem RdSt.kset (M : Mkt a b p r q t) (hst : IsSet a.n st) (S : RdSt a b st E R) : IsSet a.n (ndK a b st E R) := by
  have := M.B.set (s := ndE a st E R) (by rw [M.bn]; exact S.nset M hst)
  rw [M.bn] at this
  exact this
/-- the refused ones stay so -/
theorem RdSt.mono (M : Mkt a b p r q t) (hst : IsSet a.n st) (S : RdSt a b st E R) {x : Int} (h : x ∈ R) : x ∈ ndR a b st E R := by
  obtain ⟨h1, h2⟩ := (S.rE x).mp h
  have xe : x ∈ ndE a st E R := mem_tog.mpr (.inl h1)
  refine mem_minus.mpr ⟨xe, fun k => h2 (M.B.subst (by rw [M.bn]; exact S.eset) (by rw [M.bn]; exact S.nset M hst) (fun y hy => mem_tog.mpr (.inl hy)) h1 k)⟩
theorem RdSt.next (M : Mkt a b p r q t) (hst : IsSet a.n st) (S : RdSt a b st E R) : RdSt a b st (ndE a st E R) (ndR a b st E R) := by
  refine ⟨S.nset M hst, fun x hx => ?_, minus_set (S.nset M hst), fun x => mem_minus, fun x hx hn => ?_⟩
  · rcases mem_tog.mp hx with z | z
    · exact S.esub x z
    · exact (mem_minus.mp (M.A.sub (minus_set hst) z)).1
  · have hR : x ∉ R := fun z => hn (S.mono M hst z)
    have hP : x ∈ a.f (minus st R) := by
      rcases mem_tog.mp hx with z | z
      · exact S.inA x z hR
      · exact z
    have xs := (mem_minus.mp (M.A.sub (minus_set hst) hP)).1
    exact M.A.subst (minus_set hst) (minus_set hst) (fun y hy => mem_minus.mpr ⟨(mem_minus.mp hy).1, fun z => (mem_minus.mp hy).2 (S.mono M hst z)⟩) (mem_minus.mpr ⟨xs, hn⟩) hP
theorem RdSt.more (M : Mkt a b p r q t) (hst : IsSet a.n st) (S : RdSt a b st E R) (h : ndR a b st E R ≠ R) : R.length + 1 ≤ (ndR a b st E R).length := by
  have rs : IsSet a.n (ndR a b st E R) := minus_set (S.nset M hst)
  obtain ⟨x, hx, hn⟩ : ∃ x ∈ ndR a b st E R, x ∉ R := by
    refine Classical.byContradiction fun z => h (set_ext rs S.rset fun x => ⟨fun hx => ?_, S.mono M hst⟩)
    exact Classical.byContradiction fun hn => z ⟨x, hx, hn⟩
  have := nodup_le (xs := x :: R) (ys := ndR a b st E R) (List.nodup_cons.mpr ⟨hn, asc_nodup S.rset.1⟩) fun y hy => by
    rcases List.mem_cons.mp hy with e | e
    · rw [e]; exact hx
    · exact S.mono M hst e
  rw [List.length_cons] at this
  exact this
/-- where no more are refused, what is kept is settled -/
theorem RdSt.done (M : Mkt a b p r q t) (hst : IsSet a.n st) (S : RdSt a b st E R) (h : ndR a b st E R = R) : ndK a b st E R ∈ settledL a b st := by
  have es := S.nset M hst
  have esb : IsSet b.n (ndE a st E R) := by rw [M.bn]; exact es
  have mst := minus_set (u := R) hst
  have kP : ndK a b st E R = ndP a st R := by
    refine set_ext (S.kset M hst) (RdSt.pset M hst) fun x => ⟨fun hx => ?_, fun hx => ?_⟩
    · have xe := M.B.sub esb hx
      have xR : x ∉ R := fun z => by
        rw [← h] at z
        exact (mem_minus.mp z).2 hx
      rcases mem_tog.mp xe with z | z
      · exact S.inA x z xR
      · exact z
    · have xe : x ∈ ndE a st E R := mem_tog.mpr (.inr hx)
      have xR : x ∉ R := (mem_minus.mp (M.A.sub mst hx)).2
      refine Classical.byContradiction fun z => xR ?_
      rw [← h]
      exact mem_minus.mpr ⟨xe, z⟩
  have kset := S.kset M hst
  have ksub : ∀ x ∈ ndK a b st E R, x ∈ st := fun x hx => (S.next M hst).esub x (M.B.sub esb hx)
  have fa : a.f (ndK a b st E R) = ndK a b st E R := by rw [kP]; exact M.A.idem mst
  have fb : b.f (ndK a b st E R) = ndK a b st E R := M.B.idem esb
  have ag : agreedB a b (ndK a b st E R) = true := by unfold agreedB; rw [fa, fb]; simp
  refine (M.mem_settled hst).mpr ⟨(M.agr kset ksub).mp ag, List.eq_nil_iff_forall_not_mem.mpr fun o ho => ?_⟩
  unfold wished at ho
  obtain ⟨h1, h2⟩ := List.mem_filter.mp ho
  simp only [Bool.and_eq_true, Bool.not_eq_true', List.contains_iff_mem] at h2
  obtain ⟨g1, g2, g3⟩ := h2
  have g1 : o ∉ ndK a b st E R := by simpa using g1
  have on := hst.2 o h1
  have ws := isSet_withO kset on
  by_cases oR : o ∈ R
  · have oE : o ∈ ndE a st E R := by
      rw [← h] at oR
      exact (mem_minus.mp oR).1
    have e : b.f (withO (ndK a b st E R) o) = b.f (ndE a st E R) := M.B.cons (by rw [M.bn]; exact ws) esb (fun x hx => by
      rcases mem_withO.mp hx with z | z
      · exact M.B.sub esb z
      · rw [z]; exact oE) fun x hx => mem_withO.mpr (.inl hx)
    rw [e] at g3
    exact g1 g3
  · have e : a.f (withO (ndK a b st E R) o) = a.f (minus st R) := M.A.cons ws mst (fun x hx => by
      rcases mem_withO.mp hx with z | z
      · rw [kP] at z; exact M.A.sub mst z
      · rw [z]; exact mem_minus.mpr ⟨h1, oR⟩) fun x hx => mem_withO.mpr (.inl (by rw [kP]; exact hx))
    rw [e] at g2
    rw [kP] at g1
    exact g1 g2
end
end Ost
set_option Elab.async false
set_option linter.all false
set_option maxRecDepth 100000
set_option maxHeartbeats 1000000
/-! D12: shrinking; rounds. -/
namespace Ost
open PySem PySem.Spec PyProof.Rows L2
open C8 (Cal pe_c Mak pe_mk Met pe_gc)

/-- a chooser that never takes fewer of more -/
structure NoSh (c : Ch) : Prop where
  ok : ChOk c
  n6 : c.n ≤ 6
  gr : ∀ s o, IsSet c.n s → (0 ≤ o ∧ o < (c.n : Int)) → o ∉ s → (c.f s).length ≤ (c.f (withO s o)).length
abbrev N_first_shrinking : List Str := ["chooser", "some", "offer"]
theorem sc_first_shrinking : FnScope N_first_shrinking ["chooser"] (defScope s_first_shrinking) := ⟨rfl, rfl, rfl, by decide +kernel, rfl, by decide +kernel, by decide +kernel⟩
def sg_first_shrinking (C : Cn) : Sg Ch := ⟨fun c => NoSh c, fun c => [cho C c], fun c => dt .none⟩
def sp_first_shrinking (C : Cn) : Sp := (sg_first_shrinking C).sp
theorem ok_first_shrinking {P : Program} {w : World} {K : PySem.W.Frag} {mg : Str → Option Value} {base : Heap} {C : Cn} {f : Addr} {fd : FuncData} (F : FunD K "first_shrinking" "first_shrinking" (defArgs s_first_shrinking) (defBody s_first_shrinking) (defScope s_first_shrinking) [] [] f fd) (m : mg "first_shrinking" = some (.ref f)) (T : Top K mg C) (LC : LenOk P w K mg base C) (c_all_sets : Cal P w K mg base 1 "all_sets" (sp_all_sets C) []) (c_side_set_with : Cal P w K mg base 2 "side_set_with" (sp_side_set_with C) []) :
    Cal P w K mg base 3 "first_shrinking" (sp_first_shrinking C) [] := by
  refine cal_of F (fn_js (S := sg_first_shrinking C) (k := 2) F sc_first_shrinking (fun _ => rfl) fun cdv A outer s H E hr => ⟨_, PSs.nox ((pss_cons (ps_for PassesOwn.never rfl (i_seq (K := K) rfl (pe_c c_all_sets hr (by decide) (by rfl) (pa_cons (pe_callB (call_lenC LC (hr.mono (by decide))) (by rfl) T.len_ boot_len (pa_cons (pv 0) pa_nil)) pa_nil))) (pg_name (i := 1) sc_first_shrinking.nd rfl (Or.inl rfl)) (pss_one (ps_for PassesOwn.never rfl (pi_range1 (by rfl) T.range_ (pa_cons (pe_callB (call_lenC LC (hr.mono (by decide))) (by rfl) T.len_ boot_len (pa_cons (pv 0) pa_nil)) pa_nil)) (pg_name (i := 2) sc_first_shrinking.nd rfl (Or.inl rfl)) (pss_one (ps_if (PW.pt (pw_and (pt_cmpR (o_notIn (K := K) (w := w) rfl rfl (hu65 hr)) (pv 2) (pv 1) (by rfl)) (pw_and1 (pt_cmpR op_gt (pe_callB (c_len (K := K) rfl) (by rfl) T.len_ boot_len (pa_cons (pe_dget (hu_of hr) (e_fld (K := K) rfl (pv 0) rfl) (pv 1) (fun _ _ => rfl)) pa_nil)) (pe_callB (c_len (K := K) rfl) (by rfl) T.len_ boot_len (pa_cons (pe_dget (hu_of hr) (e_fld (K := K) rfl (pv 0) rfl) (pe_c c_side_set_with hr (by decide) (by rfl) (pa_cons (pv 1) (pa_cons (pv 2) pa_nil))) (fun _ _ => rfl)) pa_nil)) (nomark _))))) (pss_one (ps_ret (pe_tup (pa_cons (pv 1) (pa_cons (pv 2) pa_nil))))) pss_nil)))))
    (pss_one (ps_ret pe_non)))), fun x hd => ?_⟩) m (fun _ _ _ _ _ _ us hl => match us, hl with | [_], _ => rfl)
  have hd : NoSh x := hd
  have h6 := hd.n6
  refine ⟨[some (cho C x), none, none], True, js_seq (js_for (xs := allS x.n) (bind := fun s Γ => Γ.set 1 (some (dt (sD s)))) (Γs := fun i => [some (cho C x), none, none]) (C := fun _ => True) (ji_tup (D := sD) (jd_call (S := sg_all_sets C) x.n h6 (ja_cons (jd_lenCh (jd_var rfl) (by omega)) ja_nil))) (tg_name 1) trivial (fun i s hs _ => ?_)) fun _ => js_ret jd_non, fun _ H => dt_non⟩
  have ms : IsSet x.n s := mem_allS.mp (List.mem_of_getElem? hs)
  have l6 := len6 ms h6
  refine js_weak (js_for (xs := rgI 0 (x.n : Int).toNat) (bind := fun o Γ => Γ.set 2 (some (dt (.int o)))) (Γs := fun i => [some (cho C x), some (dt (sD s)), none]) (C := fun _ => True) (ji_range1 (hi := (x.n : Int)) (ja_cons (jd_lenCh (jd_var rfl) (by omega)) ja_nil) (by omega) (by omega)) (tg_name 2) trivial (fun j o ho _ => ?_)) ⟨rfl, trivial⟩
  have hm := mem_rgI.mp (List.mem_of_getElem? ho)
  have hon : 0 ≤ o ∧ o < (x.n : Int) := by omega
  refine js_weak (js_guard (Jt.eq (jt_and (c := decide (((x.f (withO s o)).length : Int) < ((x.f s).length : Int))) (jt_test (jd_notInI (jd_var rfl) (jd_var rfl))) fun h => jt_test (jd_gt (jd_lenS (jd_table T (c := x) (jd_var rfl) (jd_var rfl) ms)) (jd_lenS (jd_table T (c := x) (jd_var rfl) (jd_call (S := sg_side_set_with C) (s, o) (show s.length < 60 by omega) (ja_cons (jd_var rfl) (ja_cons (jd_var rfl) ja_nil))) (isSet_withO ms hon))))) ?_)) (Γ1 := [some (cho C x), some (dt (sD s)), some (dt (.int o))]) ⟨rfl, rfl, trivial⟩
  by_cases hin : o ∈ s
  · have : s.contains o = true := by simpa using hin
    rw [this]
    rfl
  · have := hd.gr s o ms hon hin
    rw [decide_eq_false (by omega), Bool.and_false]

abbrev N_does_shrink : List Str := ["chooser"]
theorem sc_does_shrink : FnScope N_does_shrink ["chooser"] (defScope s_does_shrink) := ⟨rfl, rfl, rfl, by decide +kernel, rfl, by decide +kernel, by decide +kernel⟩
def sg_does_shrink (C : Cn) : Sg Ch := ⟨fun c => NoSh c, fun c => [cho C c], fun c => dt (.bool false)⟩
def sp_does_shrink (C : Cn) : Sp := (sg_does_shrink C).sp
theorem ok_does_shrink {P : Program} {w : World} {K : PySem.W.Frag} {mg : Str → Option Value} {base : Heap} {C : Cn} {f : Addr} {fd : FuncData} (F : FunD K "does_shrink" "does_shrink" (defArgs s_does_shrink) (defBody s_does_shrink) (defScope s_does_shrink) [] [] f fd) (m : mg "does_shrink" = some (.ref f)) (T : Top K mg C) (c_first_shrinking : Cal P w K mg base 3 "first_shrinking" (sp_first_shrinking C) []) :
    Cal P w K mg base 4 "does_shrink" (sp_does_shrink C) [] := by
  refine cal_of F (fn_js (S := sg_does_shrink C) (k := 3) F sc_does_shrink (fun _ => rfl) fun cdv A outer s H E hr => ⟨_, PSs.nox ((pss_one (ps_ret (pe_cmpR op_notN0 (pe_c c_first_shrinking hr (by decide) (by rfl) (pa_cons (pv 0) pa_nil)) pe_non (nomark _))))), fun x hd => ?_⟩) m (fun _ _ _ _ _ _ us hl => match us, hl with | [_], _ => rfl)
  exact ⟨[], False, js_ret (jd_notN (jd_call (S := sg_first_shrinking C) x hd (ja_cons (jd_var rfl) ja_nil))), fun z => z.elim⟩

/-! ### several names at once, by a tuple -/
section
variable {Γ : Mm} {ta tb tc td : TE} {R : VT} {t1 t2 t3 t4 : MT} {i j l k : Nat} {K : PySem.W.Frag}
theorem jm_asgT2 (h1 : Jmv Γ ta t1) (h2 : Jmv Γ tb t2) : Jm Γ (tAsg (tTup (tCons ta (tCons tb tNil))) (gTup K 2 (gCons (gName i) (gCons (gName j) gNil)))) ((Γ.set i (some t1)).set j (some t2)) True R := fun H0 σ H ty D kk r =>
  h1 H0 σ H ty _ fun v H1 e1 p1 n1 => h2 H0 σ H1 (ty.mono e1) _ fun u H2 e2 p2 n2 => by
    refine ⟨by show 2 ≤ sizeLine; decide, fun p hp => ?_⟩
    have e3 : Same H2 (upd H2 p (.tup [v, u])) := same_upd hp
    obtain ⟨a1, b1⟩ := put_mv (i := i) ty e1 p1 n1
    obtain ⟨a2, b2⟩ := put_mv (i := j) a1 e2 p2 n2
    exact ⟨p, [v, u], rfl, SqT.of upd_same, rfl, v, [u], rfl, u, [], rfl, rfl, kk trivial _ _ ((b1.trans b2).trans (Fra.same e3)) (a2.mono e3)⟩
theorem jm_asgT4 (h1 : Jmv Γ ta t1) (h2 : Jmv Γ tb t2) (h3 : Jmv Γ tc t3) (h4 : Jmv Γ td t4) : Jm Γ (tAsg (tTup (tCons ta (tCons tb (tCons tc (tCons td tNil))))) (gTup K 4 (gCons (gName i) (gCons (gName j) (gCons (gName l) (gCons (gName k) gNil)))))) ((((Γ.set i (some t1)).set j (some t2)).set l (some t3)).set k (some t4)) True R := fun H0 σ H ty D kk r =>
  h1 H0 σ H ty _ fun v H1 e1 p1 n1 => h2 H0 σ H1 (ty.mono e1) _ fun u H2 e2 p2 n2 => h3 H0 σ H2 ((ty.mono e1).mono e2) _ fun x H3 e3 p3 n3 => h4 H0 σ H3 (((ty.mono e1).mono e2).mono e3) _ fun y H4 e4 p4 n4 => by
    refine ⟨by show 4 ≤ sizeLine; decide, fun p hp => ?_⟩
    have e5 : Same H4 (upd H4 p (.tup [v, u, x, y])) := same_upd hp
    obtain ⟨a1, b1⟩ := put_mv (i := i) ty e1 p1 n1
    obtain ⟨a2, b2⟩ := put_mv (i := j) a1 e2 p2 n2
    obtain ⟨a3, b3⟩ := put_mv (i := l) a2 e3 p3 n3
    obtain ⟨a4, b4⟩ := put_mv (i := k) a3 e4 p4 n4
    exact ⟨p, [v, u, x, y], rfl, SqT.of upd_same, rfl, v, [u, x, y], rfl, u, [x, y], rfl, x, [y], rfl, y, [], rfl, rfl, kk trivial _ _ ((((b1.trans b2).trans b3).trans b4).trans (Fra.same e5)) (a4.mono e5)⟩
end

/-- rounds: the last one keeps what is settled -/
def rdsT (a b : Ch) (st : List Int) : VT := ⟨fun v H => ∃ (rows : List Row) (x : Row), rows.getLast? = some x ∧ x.2 ∈ settledL a b st ∧ Tp H (.tuple (rows.map rowD)) v, fun e h => by
  obtain ⟨rows, x, h1, h2, h3⟩ := h
  exact ⟨rows, x, h1, h2, Tp.mono e _ _ h3⟩⟩
def DomM (a b : Ch) (st : List Int) : Prop := Dom2 a b st ∧ ∃ p r q t, Mkt a b p r q t

abbrev N_rounds_of : List Str := ["near", "far", "standing", "rows", "ever", "refused", "is_over", "proposed", "offer", "kept", "fresh"]
theorem sc_rounds_of : FnScope N_rounds_of ["near", "far", "standing"] (defScope s_rounds_of) := ⟨rfl, rfl, rfl, by decide +kernel, rfl, by decide +kernel, by decide +kernel⟩
def sg_rounds_of (C : Cn) : Sg (Ch × Ch × List Int) := ⟨fun x => DomM x.1 x.2.1 x.2.2, fun x => [cho C x.1, cho C x.2.1, dt (sD x.2.2)], fun x => rdsT x.1 x.2.1 x.2.2⟩
def sp_rounds_of (C : Cn) : Sp := (sg_rounds_of C).sp
theorem ok_rounds_of {P : Program} {w : World} {K : PySem.W.Frag} {mg : Str → Option Value} {base : Heap} {C : Cn} {f : Addr} {fd : FuncData} (F : FunD K "rounds_of" "rounds_of" (defArgs s_rounds_of) (defBody s_rounds_of) (defScope s_rounds_of) [] [] f fd) (m : mg "rounds_of" = some (.ref f)) (T : Top K mg C) (c_side_check_standing : Cal P w K mg base 4 "side_check_standing" (sp_side_check_standing C) []) (c_together : Cal P w K mg base 1 "together" (sp_together C) []) :
    Cal P w K mg base 5 "rounds_of" (sp_rounds_of C) [] := by
  refine cal_of F (fn_jm (S := sg_rounds_of C) (k := 4) F sc_rounds_of (fun _ => rfl) fun cdv A outer s H E hr => ⟨_, PSs.nox ((pss_cons (ps_expr (pe_c c_side_check_standing hr (by decide) (by rfl) (pa_cons (pv 0) (pa_cons (pv 1) (pa_cons (pv 2) pa_nil)))))
    (pss_cons (ps_asg (pe_tup (pa_cons (pe_lst pa_nil) (pa_cons (pe_tup pa_nil) (pa_cons (pe_tup pa_nil) (pa_cons pe_bl pa_nil))))) (g_tup (K := K) (n := 4) rfl (by rfl) (pgs_cons (pg_name (i := 3) sc_rounds_of.nd rfl (Or.inl rfl)) (pgs_cons (pg_name (i := 4) sc_rounds_of.nd rfl (Or.inl rfl)) (pgs_cons (pg_name (i := 5) sc_rounds_of.nd rfl (Or.inr rfl)) (pgs_cons (pg_name (i := 6) sc_rounds_of.nd rfl (Or.inl rfl)) pgs_nil))))))
    (pss_cons (ps_while PassesOwn.never (pt_not (pt_val (pv 6))) (pss_cons (ps_set (i := 7) sc_rounds_of.nd rfl (Or.inl rfl) (pe_dget (hu_of hr) (e_fld (K := K) rfl (pv 0) rfl) (pe_callTy (c_tup (K := K) rfl) (by rfl) T.tuple_ boot_tuple (pa_cons (pe_lc (own := [("offer", 8)]) rfl sc_rounds_of.nd (i_seq (K := K) rfl (pv 2)) (blkOk_by (own := [("offer", 8)]) (N := N_rounds_of) (sc := defScope s_rounds_of) (by decide +kernel)) (fun _ _ _ _ _ => (pg_name (i := 8) sc_rounds_of.nd rfl (Or.inl rfl))) (fun _ _ _ _ _ => pts_one (pt_cmpR (o_notIn (K := K) (w := w) rfl rfl (hu65 hr)) (pv 8) (pv 5) (by rfl))) (fun _ _ _ _ _ => (pv 8))) pa_nil)) (fun _ _ => rfl)))
    (pss_cons (ps_set (i := 4) sc_rounds_of.nd rfl (Or.inl rfl) (pe_c c_together hr (by decide) (by rfl) (pa_cons (pv 4) (pa_cons (pv 7) pa_nil))))
    (pss_cons (ps_set (i := 9) sc_rounds_of.nd rfl (Or.inr rfl) (pe_dget (hu_of hr) (e_fld (K := K) rfl (pv 1) rfl) (pv 4) (fun _ _ => rfl)))
    (pss_cons (ps_expr (pe_bm PySem.F.plainAttrs_list PySem.F.slot_list_append PySem.F.type_list_append mt_append (pv 3) (pa_cons (pe_tup (pa_cons (pv 7) (pa_cons (pv 9) pa_nil))) pa_nil)))
    (pss_cons (ps_set (i := 10) sc_rounds_of.nd rfl (Or.inl rfl) (pe_callTy (c_tup (K := K) rfl) (by rfl) T.tuple_ boot_tuple (pa_cons (pe_lc (own := [("offer", 8)]) rfl sc_rounds_of.nd (i_seq (K := K) rfl (pv 4)) (blkOk_by (own := [("offer", 8)]) (N := N_rounds_of) (sc := defScope s_rounds_of) (by decide +kernel)) (fun _ _ _ _ _ => (pg_name (i := 8) sc_rounds_of.nd rfl (Or.inl rfl))) (fun _ _ _ _ _ => pts_one (pt_cmpR (o_notIn (K := K) (w := w) rfl rfl (hu65 hr)) (pv 8) (pv 9) (by rfl))) (fun _ _ _ _ _ => (pv 8))) pa_nil)))
    (pss_one (ps_asg (pe_tup (pa_cons (pe_cmpR (o_eq (K := K) rfl hr.units) (pv 10) (pv 5) (nomark _)) (pa_cons (pv 10) pa_nil))) (g_tup (K := K) (n := 2) rfl (by rfl) (pgs_cons (pg_name (i := 6) sc_rounds_of.nd rfl (Or.inl rfl)) (pgs_cons (pg_name (i := 5) sc_rounds_of.nd rfl (Or.inr rfl)) pgs_nil)))))))))))
    (pss_one (ps_ret (pe_callTy (c_tup (K := K) rfl) (by rfl) T.tuple_ boot_tuple (pa_cons (pv 3) pa_nil)))))))), fun x hd => ?_⟩) m (fun _ _ _ _ _ _ us hl => match us, hl with | [_, _, _], _ => rfl)
  obtain ⟨a, b, st⟩ := x
  have hd : DomM a b st := hd
  obtain ⟨hd, p, r, q, t, M⟩ := hd
  have hst := hd.hst
  have h6 := hd.n6
  have ls := len6 hst h6
  let A3 : Mm := [some (.arg (cho C a)), some (.arg (cho C b)), some (.arg (dt (sD st)))]
  let Γ_ : List Int × List Int × List Row × Bool → Mm := fun x => A3 ++ [some (.own (x.2.2.1.map rowD)), some (.dat (sD x.1)), some (.dat (sD x.2.1)), some (.dat (.bool x.2.2.2)), none, none, none, none]
  refine ⟨A3 ++ [none, none, none, none, none, none, none, none], False, jm_seq (jm_drop (jd_call (S := sg_side_check_standing C) (a, b, st) hd (ja_cons (jd_var rfl) (ja_cons (jd_var rfl) (ja_cons (jd_var rfl) ja_nil))))) fun _ =>
    jm_seq (jm_asgT4 (i := 3) (j := 4) (l := 5) (k := 6) (t1 := .own []) (t2 := .dat (sD [])) (t3 := .dat (sD [])) (t4 := .dat (.bool false)) (mv_own (jf_lst (ds := []) ja_nil (by simp)) rfl) (mv_dat jd_nil (noL_sD _)) (mv_dat jd_nil (noL_sD _)) (mv_dat jd_bl (by simp [noL]))) fun _ => ?_, fun z => z.elim⟩
  -- the state: ever, refused, the rows, whether it is over
  let P : List Int × List Int × List Row × Bool → Prop := fun x => RdSt a b st x.1 x.2.1 ∧ x.2.2.1.length ≤ x.2.1.length + (if x.2.2.2 = true then 1 else 0) ∧ (x.2.2.2 = true → ∃ y : Row, x.2.2.1.getLast? = some y ∧ y.2 ∈ settledL a b st)
  intro H0 σ H ty D kk rr
  refine ⟨fun m σ' H' => ∃ x, P x ∧ (if x.2.2.2 = true then 0 else 8 - x.2.1.length) = m ∧ Fra (Γ_ ([], [], [], false)) σ H (Γ_ x) σ' H' ∧ TyM H0 (Γ_ x) σ' H', ⟨_, ([], [], [], false), ⟨RdSt.start a b st, by simp, fun z => by cases z⟩, rfl, Fra.refl, ty⟩, ?_⟩
  rintro m σ' H' ⟨⟨E, R, rows, ov⟩, ⟨S, hl, hov⟩, rfl, f, ty'⟩
  refine jt_not (jt_B (jd_var (i := 6) (T := dt (.bool ov)) rfl)) σ' H' ty'.ty _ fun H1 e => ?_
  cases ov with
  | true =>
    refine iteF ?_
    obtain ⟨y, hy, hk⟩ := hov rfl
    refine (jm_ret (Jd.imp (jd_tupOf (K := K) (jd_var (i := 3) (T := dt (.list (rows.map rowD))) rfl)) fun v H2 hv => (⟨rows, y, hy, hk, hv⟩ : (rdsT a b st).P v H2)) : Jm (Γ_ (E, R, rows, true)) _ (Γ_ (E, R, rows, true)) False _) H0 σ' H1 (ty'.mono e) D (fun z => z.elim) rr
  | false =>
    have S : RdSt a b st E R := S
    have rl : R.length ≤ 6 := len6 S.rset h6
    have hl : rows.length ≤ R.length := by simpa using hl
    let E2 := ndE a st E R
    let R2 := ndR a b st E R
    let rows2 : List Row := rows ++ [(ndP a st R, ndK a b st E R)]
    have S2 := S.next M hst
    have ps := RdSt.pset (R := R) M hst
    have es := S.nset M hst
    have ks := S.kset M hst
    have el := len6 S.eset h6
    have pl := len6 ps h6
    have el2 := len6 es h6
    refine iteT ⟨fun σ2 H2 => ∃ m', m' < 8 - R.length ∧ ∃ x, P x ∧ (if x.2.2.2 = true then 0 else 8 - x.2.1.length) = m' ∧ Fra (Γ_ ([], [], [], false)) σ H (Γ_ x) σ2 H2 ∧ TyM H0 (Γ_ x) σ2 H2, fun σ2 H2 z => z, ?_⟩
    have body : ∀ {tb : TS} {D2 : Ends}, (∀ σ2 H2, (∃ m', m' < 8 - R.length ∧ ∃ x, P x ∧ (if x.2.2.2 = true then 0 else 8 - x.2.1.length) = m' ∧ Fra (Γ_ ([], [], [], false)) σ H (Γ_ x) σ2 H2 ∧ TyM H0 (Γ_ x) σ2 H2) → D2.nx σ2 H2) → (∀ v H', Same H0 H' → (rdsT a b st).P v H' → D2.rt v H') → Jm (Γ_ (E, R, rows, false)) tb (Γ_ (E2, R2, rows2, decide (R2 = R))) True (rdsT a b st) → tb D2 σ' H1 := fun {tb D2} hnx hrt hj =>
      hj H0 σ' H1 (ty'.mono e) _ (fun _ σ2 H2 f2 ty2 => hnx σ2 H2 (by
        have lr : rows2.length = rows.length + 1 := by show (rows ++ [_]).length = _; rw [List.length_append]; rfl
        by_cases ho : R2 = R
        · refine ⟨0, by omega, (E2, R2, rows2, decide (R2 = R)), ⟨S2, ?_, fun _ => ⟨_, by show (rows ++ [_]).getLast? = _; rw [List.getLast?_append]; rfl, S.done M hst ho⟩⟩, by rw [decide_eq_true ho]; rfl, (f.trans (Fra.same e)).trans f2, ty2⟩
          show rows2.length ≤ R2.length + (if decide (R2 = R) = true then 1 else 0)
          rw [decide_eq_true ho, ho, lr]
          simp
          omega
        · have mr := S.more M hst ho
          refine ⟨8 - R2.length, by show 8 - (ndR a b st E R).length < _; omega, (E2, R2, rows2, decide (R2 = R)), ⟨S2, ?_, fun z => ?_⟩, by rw [decide_eq_false ho]; rfl, (f.trans (Fra.same e)).trans f2, ty2⟩
          · show rows2.length ≤ R2.length + (if decide (R2 = R) = true then 1 else 0)
            rw [decide_eq_false ho, lr]
            show rows.length + 1 ≤ (ndR a b st E R).length + 0
            omega
          · have z : decide (R2 = R) = true := z
            rw [decide_eq_false ho] at z
            cases z)) hrt
    refine body (fun σ2 H2 z => z) rr ?_
    refine jm_seq (jm_asg (d := sD (ndP a st R)) (jd_table T (c := a) (s := minus st R) (jd_var rfl) (jd_filter (s := st) (p := fun x => !R.contains x) (ji_ints (jd_var rfl)) (fun o ho => jt_test (jd_notInI (jd_var rfl) (jd_var (i := 5) rfl))) (fun o ho => jd_var rfl) (by omega)) (minus_set hst)) (noL_sD _)) fun _ =>
      jm_seq (jm_asg (d := sD E2) (jd_call (S := sg_together C) (E, ndP a st R) (show E.length + (ndP a st R).length < 64 by omega) (ja_cons (jd_var rfl) (ja_cons (jd_var rfl) ja_nil))) (noL_sD _)) fun _ =>
      jm_seq (jm_asg (d := sD (ndK a b st E R)) (jd_table T (c := b) (s := E2) (jd_var rfl) (jd_var (i := 4) rfl) (by rw [M.bn]; exact es)) (noL_sD _)) fun _ =>
      jm_seq (jm_append (ds := rows.map rowD) (d := rowD (ndP a st R, ndK a b st E R)) (i := 3) rfl (jd_tup (ds := [sD (ndP a st R), sD (ndK a b st E R)]) (ja_cons (jd_var (i := 7) rfl) (ja_cons (jd_var (i := 9) rfl) ja_nil)) (by simp)) (noL_rowD _) (by rw [List.length_map]; omega)) fun _ =>
      jm_seq (jm_asg (d := sD R2) (jd_filter (s := E2) (p := fun x => !(ndK a b st E R).contains x) (ji_ints (jd_var (i := 4) rfl)) (fun o ho => jt_test (jd_notInI (jd_var rfl) (jd_var (i := 9) rfl))) (fun o ho => jd_var rfl) (by show (ndE a st E R).length ≤ 1000; omega)) (noL_sD _)) fun _ =>
      jm_weak (jm_asgT2 (i := 6) (j := 5) (t1 := .dat (.bool (decide (R2 = R)))) (t2 := .dat (sD R2)) (mv_dat (jd_eqSet (jd_var (i := 10) rfl) (jd_var (i := 5) rfl)) (by simp [noL])) (mv_dat (jd_var (i := 10) rfl) (noL_sD _))) ⟨rfl, rfl, rfl, ?_, rfl, rfl, rfl, trivial⟩
    show some (MT.own (rows.map rowD ++ [rowD (ndP a st R, ndK a b st E R)])) = some (MT.own ((rows ++ [(ndP a st R, ndK a b st E R)]).map rowD))
    rw [List.map_append]
    rfl

/-- what is settled at the best -/
def bestT (a b : Ch) (st : List Int) : VT := ⟨fun v H => ∃ s, s ∈ settledL a b st ∧ Tp H (sD s) v, fun e h => by
  obtain ⟨s, h1, h2⟩ := h
  exact ⟨s, h1, Tp.mono e _ _ h2⟩⟩
abbrev N_best_settled : List Str := ["near", "far", "standing"]
theorem sc_best_settled : FnScope N_best_settled ["near", "far", "standing"] (defScope s_best_settled) := ⟨rfl, rfl, rfl, by decide +kernel, rfl, by decide +kernel, by decide +kernel⟩
def sg_best_settled (C : Cn) : Sg (Ch × Ch × List Int) := ⟨fun x => DomM x.1 x.2.1 x.2.2, fun x => [cho C x.1, cho C x.2.1, dt (sD x.2.2)], fun x => bestT x.1 x.2.1 x.2.2⟩
def sp_best_settled (C : Cn) : Sp := (sg_best_settled C).sp
theorem ok_best_settled {P : Program} {w : World} {K : PySem.W.Frag} {mg : Str → Option Value} {base : Heap} {C : Cn} {f : Addr} {fd : FuncData} (F : FunD K "best_settled" "best_settled" (defArgs s_best_settled) (defBody s_best_settled) (defScope s_best_settled) [] [] f fd) (m : mg "best_settled" = some (.ref f)) (T : Top K mg C) (c_rounds_of : Cal P w K mg base 5 "rounds_of" (sp_rounds_of C) []) :
    Cal P w K mg base 6 "best_settled" (sp_best_settled C) [] := by
  refine cal_of F (fn_js (S := sg_best_settled C) (k := 5) F sc_best_settled (fun _ => rfl) fun cdv A outer s H E hr => ⟨_, PSs.nox ((pss_one (ps_ret (pe_ix (x_ix (K := K) rfl) (pe_ix (x_ix (K := K) rfl) (pe_c c_rounds_of hr (by decide) (by rfl) (pa_cons (pv 0) (pa_cons (pv 1) (pa_cons (pv 2) pa_nil)))) (pe_un un_neg pe_int) (fun _ _ => rfl)) pe_int (fun _ _ => rfl))))), fun x hd => ?_⟩) m (fun _ _ _ _ _ _ us hl => match us, hl with | [_, _, _], _ => rfl)
  obtain ⟨a, b, st⟩ := x
  have lastT : ∀ {Γ : Gm} {te : TE}, Jd Γ te (rdsT a b st) → Jd Γ (tOp (rIxA K) (tOp (rIxA K) te (tUn (rU fun i => .int (-i)) (tC (.int 1)))) (tC (.int 1))) (bestT a b st) := fun {Γ te} h σ H ty Q k => h σ H ty _ fun v H1 e1 p1 => by
    obtain ⟨rows, y, h1, h2, h3⟩ := p1
    have a1 : atI rows (-1) = some y := atI_neg1 h1
    refine jd_neg jd_int σ H1 (ty.mono e1) _ fun v2 H2 e2 p2 => ?_
    have r1 : ∀ (x z : V) (Ha : Hp) (Q : VK), (dt (.tuple (rows.map rowD))).P x Ha → (dt (.int (-1))).P z Ha → (∀ w, (dt (rowD y)).P w Ha → Q w Ha) → rIxA K x z Ha Q := fun x z Ha Q px pz kq => by
      obtain ⟨aa, xs, rfl, q1, q2⟩ := of_tup px
      rw [of_int pz]
      obtain ⟨j, e1, e2⟩ := ix_of (atI_map (f := rowD) a1)
      obtain ⟨w, e3, p3⟩ := q2.get e2
      exact .inr ⟨aa, xs, -1, w, rfl, rfl, SqT.of q1, ix_to (by rw [q2.length]; exact e1) e3, kq w p3⟩
    refine r1 v v2 H2 _ ((dt _).mono e2 h3) p2 fun w pw => ?_
    refine jd_int σ H2 ((ty.mono e1).mono e2) _ fun v3 H3 e3 p3 => ?_
    obtain ⟨aa, xs, rfl, q1, q2⟩ := of_tup ((dt (rowD y)).mono e3 pw)
    rw [of_int p3]
    obtain ⟨u, hu, tu⟩ := q2.get (i := 1) (d := sD y.2) rfl
    exact .inr ⟨aa, xs, 1, u, rfl, rfl, SqT.of q1, ix_to (j := 1) (by rw [q2.length]; rfl) hu, k u H3 ((e1.trans e2).trans e3) ⟨y.2, h2, tu⟩⟩
  exact ⟨[], False, js_ret (lastT (jd_call (S := sg_rounds_of C) (a, b, st) hd (ja_cons (jd_var rfl) (ja_cons (jd_var rfl) (ja_cons (jd_var rfl) ja_nil))))), fun z => z.elim⟩
end Ost
set_option Elab.async false
set_option linter.all false
set_option maxRecDepth 100000
set_option maxHeartbeats 1000000
/-! M8: ranks of the sets from which all chains end. -/
namespace Ost
abbrev RkL := List (List Int × Int)
/-- ranks so far -/
structure RkPre (a b : Ch) (st p : List Int) (fm : RkL) : Prop where
  nd : (fm.map (·.1)).Nodup
  rk : ∀ x ∈ fm, Reach a b st p x.1
  r0 : ∀ x ∈ fm, 0 ≤ x.2
  lt : ∀ x ∈ fm, ∀ y ∈ movesOf a b st x.1, ∃ l, (y.2, l) ∈ fm ∧ l < x.2
  ex : ∀ x ∈ fm, x.2 = 0 ∨ ∃ y ∈ movesOf a b st x.1, (y.2, x.2 - 1) ∈ fm
structure RkOk (a b : Ch) (st p : List Int) (fm : RkL) : Prop extends RkPre a b st p fm where
  cl : ∀ s, Reach a b st p s → (∀ y ∈ movesOf a b st s, ∃ l, (y.2, l) ∈ fm) → ∃ k, (s, k) ∈ fm
theorem RkPre.one {a b : Ch} {st p : List Int} {fm : RkL} (F : RkPre a b st p fm) {s : List Int} {k l : Int} (h1 : (s, k) ∈ fm) (h2 : (s, l) ∈ fm) : k = l := by
  have nd := F.nd
  clear F
  induction fm with
  | nil => cases h1
  | cons x fm ih =>
    rw [List.map_cons] at nd
    obtain ⟨n1, n2⟩ := List.nodup_cons.mp nd
    rcases List.mem_cons.mp h1 with e1 | e1 <;> rcases List.mem_cons.mp h2 with e2 | e2
    · exact (Prod.mk.inj (e1.trans e2.symm)).2
    · exact absurd (List.mem_map.mpr ⟨_, e2, by rw [← e1]⟩) n1
    · exact absurd (List.mem_map.mpr ⟨_, e1, by rw [← e2]⟩) n1
    · exact ih e1 e2 n2
theorem RkOk.uniq {a b : Ch} {st p : List Int} {fm gm : RkL} (F : RkOk a b st p fm) (G : RkOk a b st p gm) : ∀ (n : Nat) {s : List Int} {k : Int}, k.toNat = n → (s, k) ∈ fm → (s, k) ∈ gm := by
  intro n
  induction n using Nat.strongRecOn with
  | _ n ih =>
    intro s k hk h
    have below : ∀ {t : List Int} {l : Int}, (t, l) ∈ fm → l < k → (t, l) ∈ gm := fun {t l} ht hl => by
      have := F.r0 _ ht
      exact ih l.toNat (by simp only at this; omega) rfl ht
    have mv : ∀ y ∈ movesOf a b st s, ∃ l, (y.2, l) ∈ fm ∧ l < k ∧ (y.2, l) ∈ gm := fun y hy => by
      obtain ⟨l, h1, h2⟩ := F.lt _ h y hy
      exact ⟨l, h1, h2, below h1 h2⟩
    obtain ⟨k2, h2⟩ := G.cl s (F.rk _ h) fun y hy => by
      obtain ⟨l, _, _, h3⟩ := mv y hy
      exact ⟨l, h3⟩
    have k0 := F.r0 _ h
    have k20 := G.r0 _ h2
    simp only at k0 k20
    have le1 : k ≤ k2 := by
      rcases F.ex _ h with e | ⟨y, hy, hl⟩
      · simp only at e; omega
      · simp only at hl
        have g1 := below hl (by omega)
        obtain ⟨l, g2, g3⟩ := G.lt _ h2 y hy
        have := G.one g1 g2
        simp only at g3
        omega
    have le2 : k2 ≤ k := by
      rcases G.ex _ h2 with e | ⟨y, hy, hl⟩
      · simp only at e; omega
      · simp only at hl
        obtain ⟨l, h1, h3, h4⟩ := mv y hy
        have := G.one hl h4
        omega
    have : k = k2 := Int.le_antisymm le1 le2
    rw [this]
    exact h2
theorem RkOk.mem_iff {a b : Ch} {st p : List Int} {fm gm : RkL} (F : RkOk a b st p fm) (G : RkOk a b st p gm) {s : List Int} {k : Int} : (s, k) ∈ fm ↔ (s, k) ∈ gm := ⟨fun h => F.uniq G _ rfl h, fun h => G.uniq F _ rfl h⟩
/-- the rank of what one begins with, where it has one -/
def HasRk (a b : Ch) (st p : List Int) (k : Int) : Prop := ∃ fm, RkOk a b st p fm ∧ (p, k) ∈ fm
open Classical in
noncomputable def rankO (a b : Ch) (st p : List Int) : Option Int := if h : ∃ k, HasRk a b st p k then some (Classical.choose h) else none
open Classical in
theorem rankO_some {a b : Ch} {st p : List Int} {fm : RkL} {k : Int} (F : RkOk a b st p fm) (h : (p, k) ∈ fm) : rankO a b st p = some k := by
  have hx : ∃ k, HasRk a b st p k := ⟨k, fm, F, h⟩
  unfold rankO
  rw [dif_pos hx]
  obtain ⟨gm, G, hg⟩ := Classical.choose_spec hx
  rw [F.one h (G.uniq F _ rfl hg)]
open Classical in
theorem rankO_none {a b : Ch} {st p : List Int} {fm : RkL} (F : RkOk a b st p fm) (h : ∀ k, (p, k) ∉ fm) : rankO a b st p = none := by
  unfold rankO
  rw [dif_neg]
  rintro ⟨k, gm, G, hg⟩
  exact h k (G.uniq F _ rfl hg)
/-- a chain is no longer than the rank of what it begins with -/
theorem RkPre.chain {a b : Ch} {st p : List Int} {fm : RkL} (F : RkPre a b st p fm) : ∀ {os s e : List Int} {k : Int}, endOf a b st s os = some e → (s, k) ∈ fm → (os.length : Int) ≤ k
  | [], s, e, k, _, h => by have := F.r0 _ h; simpa using this
  | o :: os, s, e, k, he, h => by
    rw [endOf_cons] at he
    by_cases hc : (wished a b st s).contains o = true
    · rw [if_pos hc] at he
      obtain ⟨l, h1, h2⟩ := F.lt _ h (o, pressB a b s o) (moves_at.mpr ⟨by simpa using hc, rfl⟩)
      have := F.chain he h1
      rw [List.length_cons]
      simp only at h2
      omega
    · rw [if_neg hc] at he
      cases he
/-- where the first has a rank, all behind it have -/
theorem RkPre.down {a b : Ch} {st p : List Int} {fm : RkL} (F : RkPre a b st p fm) {k : Int} (h : (p, k) ∈ fm) {s : List Int} (hs : Reach a b st p s) : ∃ l, (s, l) ∈ fm := by
  induction hs with
  | refl => exact ⟨k, h⟩
  | step _ m ih =>
    obtain ⟨l, hl⟩ := ih
    obtain ⟨l2, h2, _⟩ := F.lt _ hl _ m
    exact ⟨l2, h2⟩
/-- a set without a rank has one behind it without -/
theorem RkOk.up {a b : Ch} {st p : List Int} {fm : RkL} (F : RkOk a b st p fm) {s : List Int} (hs : Reach a b st p s) (h : ∀ k, (s, k) ∉ fm) : ∃ y ∈ movesOf a b st s, ∀ k, (y.2, k) ∉ fm := by
  refine Classical.byContradiction fun hno => ?_
  obtain ⟨k, hk⟩ := F.cl s hs fun y hy => by
    refine Classical.byContradiction fun hn => hno ⟨y, hy, fun k hk => hn ⟨k, hk⟩⟩
  exact h k hk
/-! ### a round of ranking -/
def rkDict (fm : RkL) : List (List Int × PySem.PyData) := fm.map fun x => (x.1, .int x.2)
def rkOf (fm : RkL) (s : List Int) : Option Int := (fm.find? fun x => decide (x.1 = s)).map (·.2)
theorem rkOf_some {fm : RkL} {s : List Int} {k : Int} (h : rkOf fm s = some k) : (s, k) ∈ fm := by
  unfold rkOf at h
  obtain ⟨x, h1, h2⟩ := Option.map_eq_some_iff.mp h
  have h3 := List.mem_of_find?_eq_some h1
  have h4 := List.find?_some h1
  simp only [decide_eq_true_eq] at h4
  rw [← h4, ← h2]
  exact h3
theorem rkOf_none {fm : RkL} {s : List Int} (h : rkOf fm s = none) (k : Int) : (s, k) ∉ fm := fun hk => by
  unfold rkOf at h
  rw [Option.map_eq_none_iff, List.find?_eq_none] at h
  have := h _ hk
  simp at this
theorem rkOf_mem {fm : RkL} (nd : (fm.map (·.1)).Nodup) {s : List Int} {k : Int} (h : (s, k) ∈ fm) : rkOf fm s = some k := by
  cases hr : rkOf fm s with
  | none => exact absurd h (rkOf_none hr k)
  | some l =>
    have hl := rkOf_some hr
    induction fm with
    | nil => cases h
    | cons x fm ih =>
      rw [List.map_cons] at nd
      obtain ⟨n1, n2⟩ := List.nodup_cons.mp nd
      rcases List.mem_cons.mp h with e1 | e1 <;> rcases List.mem_cons.mp hl with e2 | e2
      · rw [(Prod.mk.inj (e1.trans e2.symm)).2]
      · exact absurd (List.mem_map.mpr ⟨_, e2, by rw [← e1]⟩) n1
      · exact absurd (List.mem_map.mpr ⟨_, e1, by rw [← e2]⟩) n1
      · refine ih n2 e1 ?_ e2
        unfold rkOf at hr ⊢
        rw [List.find?_cons_of_neg (by simp; rintro rfl; exact n1 (List.mem_map.mpr ⟨_, e2, rfl⟩))] at hr
        exact hr
/-- ready: not ranked, all behind it are -/
def readyB (a b : Ch) (st : List Int) (fm : RkL) (s : List Int) : Bool := (rkOf fm s).isNone && (movesOf a b st s).all fun y => (rkOf fm y.2).isSome
def nextRk (a b : Ch) (st : List Int) (fm : RkL) (s : List Int) : Int := ((movesOf a b st s).map fun y => (rkOf fm y.2).getD 0 + 1).foldl max 0
theorem foldl_max {L : List Int} : ∀ {m : Int}, m ≤ L.foldl max m ∧ (∀ x ∈ L, x ≤ L.foldl max m) ∧ (L.foldl max m = m ∨ L.foldl max m ∈ L) := by
  induction L with
  | nil => intro m; exact ⟨Int.le_refl _, fun x h => (by cases h), .inl rfl⟩
  | cons y L ih =>
    intro m
    obtain ⟨h1, h2, h3⟩ := ih (m := max m y)
    refine ⟨by show m ≤ L.foldl max (max m y); omega, fun x hx => ?_, ?_⟩
    · rcases List.mem_cons.mp hx with e | e
      · show x ≤ L.foldl max (max m y); rw [e]; omega
      · exact h2 x e
    · rcases h3 with e | e
      · show L.foldl max (max m y) = m ∨ L.foldl max (max m y) ∈ y :: L
        rw [e]
        rcases Int.le_total m y with l | l
        · right; rw [Int.max_eq_right l]; exact List.mem_cons_self ..
        · left; exact Int.max_eq_left l
      · exact .inr (List.mem_cons_of_mem _ e)
/-- the rows of a round -/
def readyL (a b : Ch) (st : List Int) (fm : RkL) (ks : List (List Int)) : RkL := (ks.filter (readyB a b st fm)).map fun s => (s, nextRk a b st fm s)
theorem RkPre.round {a b : Ch} {st p : List Int} {fm : RkL} {ks : List (List Int)} (F : RkPre a b st p fm) (g : ks.Nodup) (hr : ∀ s ∈ ks, Reach a b st p s) : RkPre a b st p (fm ++ readyL a b st fm ks) := by
  have rd : ∀ {x : List Int × Int}, x ∈ readyL a b st fm ks → x.1 ∈ ks ∧ (∀ k, (x.1, k) ∉ fm) ∧ (∀ y ∈ movesOf a b st x.1, ∃ l, rkOf fm y.2 = some l) ∧ x.2 = nextRk a b st fm x.1 := fun {x} hx => by
    unfold readyL at hx
    obtain ⟨s, hs, rfl⟩ := List.mem_map.mp hx
    obtain ⟨h1, h2⟩ := List.mem_filter.mp hs
    unfold readyB at h2
    rw [Bool.and_eq_true, List.all_eq_true] at h2
    refine ⟨h1, rkOf_none (by simpa using h2.1), fun y hy => ?_, rfl⟩
    have := h2.2 y hy
    exact Option.isSome_iff_exists.mp this
  have nk : ∀ (s : List Int), 0 ≤ nextRk a b st fm s := fun s => (foldl_max (m := 0)).1
  refine ⟨?_, fun x hx => ?_, fun x hx => ?_, fun x hx y hy => ?_, fun x hx => ?_⟩
  · rw [List.map_append]
    refine List.nodup_append.mpr ⟨F.nd, ?_, fun s hs u hu e => ?_⟩
    · unfold readyL
      rw [List.map_map]
      have : ((fun x : List Int × Int => x.1) ∘ fun s => (s, nextRk a b st fm s)) = id := rfl
      rw [this, List.map_id]
      exact g.filter _
    · obtain ⟨x, hx, rfl⟩ := List.mem_map.mp hs
      obtain ⟨z, hz, rfl⟩ := List.mem_map.mp hu
      exact (rd hz).2.1 x.2 (by rw [← e]; exact hx)
  · rcases List.mem_append.mp hx with z | z
    · exact F.rk x z
    · exact hr _ (rd z).1
  · rcases List.mem_append.mp hx with z | z
    · exact F.r0 x z
    · rw [(rd z).2.2.2]; exact nk _
  · rcases List.mem_append.mp hx with z | z
    · obtain ⟨l, h1, h2⟩ := F.lt x z y hy
      exact ⟨l, List.mem_append_left _ h1, h2⟩
    · obtain ⟨_, _, h3, h4⟩ := rd z
      obtain ⟨l, hl⟩ := h3 y hy
      refine ⟨l, List.mem_append_left _ (rkOf_some hl), ?_⟩
      rw [h4]
      have := (foldl_max (m := 0)).2.1 (l + 1) (List.mem_map.mpr ⟨y, hy, by rw [hl]; rfl⟩ : l + 1 ∈ (movesOf a b st x.1).map fun y => (rkOf fm y.2).getD 0 + 1)
      unfold nextRk
      omega
  · rcases List.mem_append.mp hx with z | z
    · rcases F.ex x z with e | ⟨y, hy, h1⟩
      · exact .inl e
      · exact .inr ⟨y, hy, List.mem_append_left _ h1⟩
    · obtain ⟨_, _, h3, h4⟩ := rd z
      have := (foldl_max (L := (movesOf a b st x.1).map fun y => (rkOf fm y.2).getD 0 + 1) (m := 0)).2.2
      rcases this with e | e
      · left; rw [h4]; exact e
      · right
        obtain ⟨y, hy, e2⟩ := List.mem_map.mp e
        obtain ⟨l, hl⟩ := h3 y hy
        rw [hl] at e2
        refine ⟨y, hy, List.mem_append_left _ ?_⟩
        have : x.2 - 1 = l := by
          rw [h4]
          show nextRk a b st fm x.1 - 1 = l
          unfold nextRk
          rw [← e2]
          show (l + 1) - 1 = l
          omega
        rw [this]
        exact rkOf_some hl
theorem RkPre.done {a b : Ch} {st p : List Int} {fm : RkL} {ks : List (List Int)} (F : RkPre a b st p fm) (hr : ∀ s, s ∈ ks ↔ Reach a b st p s) (h : readyL a b st fm ks = []) : RkOk a b st p fm := by
  refine ⟨F, fun s hs hm => ?_⟩
  cases hk : rkOf fm s with
  | some k => exact ⟨k, rkOf_some hk⟩
  | none =>
    exfalso
    have : s ∈ ks.filter (readyB a b st fm) := List.mem_filter.mpr ⟨(hr s).mpr hs, by
      unfold readyB
      rw [hk, Bool.and_eq_true, List.all_eq_true]
      refine ⟨rfl, fun y hy => ?_⟩
      obtain ⟨l, hl⟩ := hm y hy
      rw [rkOf_mem F.nd hl]
      rfl⟩
    unfold readyL at h
    rw [List.map_eq_nil_iff] at h
    rw [h] at this
    cases this
theorem RkPre.start (a b : Ch) (st p : List Int) : RkPre a b st p [] := ⟨List.nodup_nil, fun x h => (by cases h), fun x h => (by cases h), fun x h => (by cases h), fun x h => (by cases h)⟩
theorem lookD_rk : ∀ {fm : RkL} {s : List Int}, lookD (rkDict fm) s = (rkOf fm s).map PySem.PyData.int
  | [], s => rfl
  | x :: fm, s => by
    have ih := lookD_rk (fm := fm) (s := s)
    unfold lookD rkDict rkOf at ih ⊢
    by_cases e : x.1 = s
    · rw [List.map_cons, List.find?_cons_of_pos (by simpa using e), List.find?_cons_of_pos (by simpa using e)]
      rfl
    · rw [List.map_cons, List.find?_cons_of_neg (by simpa using e), List.find?_cons_of_neg (by simpa using e)]
      exact ih
end Ost
set_option Elab.async false
set_option linter.all false
set_option maxRecDepth 100000
set_option maxHeartbeats 1000000
/-! K13: a tuple known to be plain; dict(rows); zip(rows, rows[1:]). -/
namespace Ost
open PySem PySem.Spec PyProof.Rows L2
open C8 (Cal pe_c Mak pe_mk Met pe_gc)
open RZ (ItzT iZipA pi_zipA)

/-- tuple(list): the tuple told by its object -/
def rTupZ (K : PySem.W.Frag) : List V → Hp → VK → Prop := fun xs H Q => ∃ p ys, xs = [.ref p] ∧ SqL K H p ys ∧ ∀ l o, H l = none → o.dict = none → Q (.ref l) (upd H l (.frz o (.tup ys)))
theorem call_tupZ {X : Cx} {K : PySem.W.Frag} (hK : X.K = K) : CallR X (.type "tuple") (rTupZ K) := by
  subst hK
  intro pn s σ H xs us Q I r h
  obtain ⟨p, ys, rfl, hq, q⟩ := h
  obtain ⟨u, rfl, ru⟩ := vals1 r
  cases ru
  obtain ⟨its, r', pl, hz⟩ := I.list hq
  have hlen := r'.length
  refine PySem.call_tuple_list pl.isList (fun h' kp => ?_) (by simp only [List.size_toArray]; omega)
  have I1 : Inv X pn σ H { s with heap := h' } := I.kept (t' := s.toks) kp
  refine ⟨.ref h'.objs.size, _, I1.laid (t' := s.toks) (o := .frz ⟨.type "tuple", none, .seq its.toArray 0, #[]⟩ (.tup ys)) (fun b o e => Heap.get?_push_of_some _ e) (Nat.le_refl _) ⟨Heap.get?_push_size _ rfl, hz, its, r', IsTup.new _ _⟩, rfl, q _ _ (I1.hok.fresh (Nat.le_refl _)) rfl⟩

/-! ### dict(rows) of such a tuple -/
def PairOk (H : Hp) (u : V) (kv : List Key × V) : Prop := ∃ t b, u = V.ref t ∧ H t = some (.tup [.ref b, kv.2]) ∧ H b = some (.tup (kv.1.map kV))
def rDictZ : List V → Hp → VK → Prop := fun xs H Q => ∃ (a : Addr) (o : Obj) (us : List V) (kvs : List (List Key × V)), xs = [.ref a] ∧ H a = some (.frz o (.tup us)) ∧ o.dict = none ∧ us.length ≤ 1000 ∧ Paired (PairOk H) us kvs ∧ (kvs.map (·.1)).Nodup ∧ ∀ p, H p = none → Q (.ref p) (upd H p (.dT kvs))
theorem rows_at {X : Cx} {pn : List (Addr × Obj)} {σ : L2.St} {H : Hp} {s : Shared} (I : Inv X pn σ H s) : ∀ {us : List V} {kvs : List (List Key × V)} {its : List Value}, Paired (PairOk H) us kvs → Vals us its →
    ∃ xs : List (Addr × List Key × Addr × Value), its = xs.map (fun x => Value.ref x.1) ∧ KT H kvs (xs.map (·.2)) ∧ ∀ x ∈ xs, IsTup s.heap x.1 #[.ref x.2.2.1, x.2.2.2] ∧ H x.2.2.1 = some (.tup (x.2.1.map kV))
  | _, _, _, .nil, r => by cases r; exact ⟨[], rfl, .nil, fun x h => by cases h⟩
  | _, _, _, .cons (b := kv) h t, r => by
    cases r with
    | cons r1 r2 =>
      obtain ⟨xs, e1, e2, e3⟩ := rows_at I t r2
      obtain ⟨tt, b, rfl, ht, hb⟩ := h
      cases r1
      obtain ⟨jts, rj, pt, _⟩ := I.tuple (SqT.of ht)
      obtain ⟨x0, y0, rfl, rx, ry⟩ := vals2 rj
      cases rx
      refine ⟨(tt, kv.1, b, y0) :: xs, by rw [List.map_cons, ← e1], .cons ⟨rfl, hb, ry⟩ e2, fun x hx => ?_⟩
      rcases List.mem_cons.mp hx with rfl | hx
      · exact ⟨pt, hb⟩
      · exact e3 x hx
theorem kt_all {H : Hp} : ∀ {more acc : List (List Key × V)} {morex accx : List (List Key × Addr × Value)}, KT H acc accx → KT H more morex → ((acc ++ more).map (·.1)).Nodup → KT H (acc ++ more) (PySem.storedAllH accx morex)
  | [], acc, morex, accx, h, r, _ => by
    cases r
    rw [List.append_nil]
    exact h
  | kv :: more, acc, morex, accx, h, r, nd => by
    cases r with
    | @cons _ q _ qs r1 r2 =>
      have hn : valV acc kv.1 = none := by
        unfold valV
        rw [Option.map_eq_none_iff, List.find?_eq_none]
        intro z hz
        rw [List.map_append, List.map_cons] at nd
        have := (List.nodup_append.mp nd).2.2 z.1 (List.mem_map.mpr ⟨z, hz, rfl⟩) kv.1 (List.mem_cons_self ..)
        simpa using this
      have h2 := KT.put h kv.1 (b := q.2.1) (y := kv.2) (u := q.2.2) r1.2.1 r1.2.2
      rw [putK_new _ hn] at h2
      have := kt_all (acc := acc ++ [(kv.1, kv.2)]) h2 r2 (by rw [List.append_assoc]; exact nd)
      rw [List.append_assoc] at this
      have e : PySem.storedAllH accx (q :: qs) = PySem.storedAllH (storedH accx q.1 q.2.1 q.2.2) qs := rfl
      rw [e, ← r1.1]
      exact this
theorem call_dictP2 {X : Cx} (hc : X.calm = true) (hu : X.A.units + 65 < cLine) : CallR X (.type "dict") rDictZ := by
  intro pn s σ H xs us Q I r h
  obtain ⟨a, o, vs, kvs, rfl, ha, hod, hl, hp, nd, q⟩ := h
  obtain ⟨u, rfl, ru⟩ := vals1 r
  cases ru
  obtain ⟨ho, _, its, rv, o2, g1, g2, n2, g3⟩ := (show ObjOk X.prog X.w H s.heap a (.frz o (.tup vs)) from I.hok a _ ha)
  rw [ho] at g1
  cases g1
  obtain ⟨rows, e1, kt, hx⟩ := rows_at I hp rv
  let ps : List (Value × Value) := rows.map fun x => (Value.ref x.2.2.1, x.2.2.2)
  let Ts : Nat → Addr := fun j => ((rows[j]?).map (·.1)).getD 0
  have lps : ps.length = rows.length := List.length_map _
  have lk : kvs.length = rows.length := by
    have := Paired.length kt
    rw [List.length_map] at this
    exact this
  have lu : vs.length = rows.length := by rw [rv.length, e1, List.length_map]
  have dlt : ∀ b ob, s.heap.get? b = some ob → b ≠ s.heap.objs.size := fun b ob e => Nat.ne_of_lt (Heap.lt_size e)
  refine PySem.call_dict_pairsH (knd := tupleKind (mixKind X.prog X.w)) (ps := rows.map (·.2)) (PySem.PairArg.tuple a its.toArray Ts ps) (I.ok.hd hc) ?_ ⟨⟨o, n2, ho, g2, hod, g3⟩, ?_, fun j k v hj => ?_⟩ ⟨by rw [List.length_map, lps], fun i key v hi => ?_⟩ (fun h' hk x hxm => ?_) (by rw [lps, ← lu]; exact Nat.le_of_lt (small1000 hl)) fun h' tk dd keep => ?_
  · show X.A.units + 1 + 1 < cLine
    omega
  · rw [e1, List.size_toArray, List.length_map, lps]
  · rw [List.getElem?_map] at hj
    obtain ⟨x, h1, h2⟩ := Option.map_eq_some_iff.mp hj
    cases h2
    have tj : Ts j = x.1 := by show ((rows[j]?).map _).getD 0 = _; rw [h1]; rfl
    refine ⟨?_, .inl ?_⟩
    · rw [e1, tj]
      simp [h1]
    · rw [tj]
      exact (hx x (List.mem_of_getElem? h1)).1
  · have hi : ps[i]? = some (key, v) := hi
    rw [List.getElem?_map] at hi
    obtain ⟨x, h1, h2⟩ := Option.map_eq_some_iff.mp hi
    cases h2
    exact ⟨x.2.1, x.2.2.1, by rw [List.getElem?_map, h1]; rfl, rfl⟩
  · obtain ⟨x, hxr, rfl⟩ := List.mem_map.mp hxm
    obtain ⟨ob, k1, k2, n, k3, k4⟩ := key_of I.hok (hx x hxr).2
    exact ⟨ob, k1, k2, hk _ _ (dlt _ _ n) (by simp) n, k3, k4⟩
  · have hm : (s.heap.objs.size == sysModules) = false := beq_eq_false_iff_ne.mpr (Nat.ne_of_gt I.big)
    have all := kt_all (H := H) (acc := []) (accx := []) .nil kt (by simpa using nd)
    rw [List.nil_append] at all
    obtain ⟨ob, es, ep, hq, h2, h3, h4, _, h5⟩ := dd
    have hn := I.hok.fresh (Nat.le_refl s.heap.objs.size)
    refine ⟨.ref s.heap.objs.size, _, I.laid (t' := tk) (o := .dT kvs) (fun b ob e => keep b ob (by simp) e) (Nat.le_refl _) ⟨by rw [lk, ← lu]; exact Nat.le_of_lt (small1000 hl), hm, _, all.keeps fun c ys ec => ?_, ob, es, ep, hq, h2, h3, h4, h5⟩, rfl, q _ hn⟩
    rw [upd_ne (ne_of_none ec hn)]
    exact ec

theorem fits2 {t u : VT} {H : Hp} : ∀ {vs : List V}, Fits [t, u] vs H → ∃ v w, vs = [v, w] ∧ t.P v H ∧ u.P w H
  | [], h => h.elim
  | [_], h => h.2.elim
  | [v, w], h => ⟨v, w, rfl, h.1, h.2.1⟩
  | _ :: _ :: _ :: _, h => h.2.2.elim
/-! ### rows of sets and ranks, plain -/
def rkD (x : List Int × Int) : PyData := .tuple [sD x.1, .int x.2]
theorem noL_rkD (x : List Int × Int) : noL (rkD x) = true := by unfold rkD; rw [noL_tuple, noLs_cons, noLs_cons, noL_sD, noL_int]; rfl
def rowsZ (fm : RkL) : VT := ⟨fun v H => ∃ r o us, v = .ref r ∧ H r = some (.frz o (.tup us)) ∧ o.dict = none ∧ TpAll H (fm.map rkD) us, fun e h => by
  obtain ⟨r, o, us, h1, h2, h3, h4⟩ := h
  exact ⟨r, o, us, h1, e.get h2, h3, TpAll.mono e _ _ h4⟩⟩
theorem pair_all {H : Hp} : ∀ {fm : RkL} {us : List V}, TpAll H (fm.map rkD) us → ∃ kvs, Paired (PairOk H) us kvs ∧ kvs.map (·.1) = fm.map (fun x => keyOf x.1) ∧ TpAll H ((rkDict fm).map (·.2)) (kvs.map (·.2))
  | [], us, h => by
    have : us = [] := ta_nil.mp h
    subst this
    exact ⟨[], .nil, rfl, TpAll.nil⟩
  | x :: fm, us, h => by
    obtain ⟨v, r, rfl, h1, h2⟩ := ta_cons.mp h
    obtain ⟨kvs, a1, a2, a3⟩ := pair_all h2
    obtain ⟨t, ys, rfl, b1, b2⟩ := tp_tuple.mp h1
    obtain ⟨k, r2, rfl, c1, c2⟩ := ta_cons.mp b2
    obtain ⟨w, r3, rfl, c3, c4⟩ := ta_cons.mp c2
    have : r3 = [] := ta_nil.mp c4
    subst this
    obtain ⟨b, rfl, hb⟩ := tp_sD.mp c1
    refine ⟨(keyOf x.1, w) :: kvs, .cons ⟨t, b, rfl, b1, by rw [keyOf_kV]; exact hb⟩ a1, by rw [List.map_cons, a2]; rfl, ?_⟩
    exact TpAll.cons c3 a3
section
variable {Γ : Gm} {ta tb te tl : TE} {K : PySem.W.Frag} {fm : RkL}
theorem jd_tupZ {ds : List PyData} (h : Jf Γ te ds) (e : ds = fm.map rkD) : Jd Γ (tCB (rTupZ K) (tCons te tNil)) (rowsZ fm) := by
  subst e
  exact jd_cb (ja_cons (jd_of_jf h) ja_nil) fun vs H Q p k => by
    obtain ⟨v, rfl, pv⟩ := fits1 p
    obtain ⟨a, xs, rfl, h1, q1⟩ := of_lst pv
    refine ⟨a, xs, rfl, SqL.of h1, fun l o hl ho => ?_⟩
    have e : Same H (upd H l (.frz o (.tup xs))) := same_upd hl
    exact k _ _ e ⟨l, o, xs, rfl, upd_same, ho, TpAll.mono e _ _ q1⟩
theorem jd_dictZ (h : Jd Γ te (rowsZ fm)) (nd : (fm.map (·.1)).Nodup) (hl : fm.length ≤ 1000) : Jd Γ (tCB rDictZ (tCons te tNil)) (dicT (rkDict fm)) := jd_cb (ja_cons h ja_nil) fun vs H Q p k => by
  obtain ⟨v, rfl, r, o, us, rfl, h2, h3, h4⟩ := fits1 p
  obtain ⟨kvs, a1, a2, a3⟩ := pair_all h4
  refine ⟨r, o, us, kvs, rfl, h2, h3, by rw [h4.length, List.length_map]; exact hl, a1, ?_, fun q hq => ?_⟩
  · rw [a2]
    have : fm.map (fun x => keyOf x.1) = (fm.map (·.1)).map keyOf := by rw [List.map_map]; rfl
    rw [this]
    unfold List.Nodup
    rw [List.pairwise_map]
    exact nd.imp fun n e => n (keyOf_inj e)
  · have e : Same H (upd H q (.dT kvs)) := same_upd hq
    refine k _ _ e ⟨q, kvs, rfl, upd_same, ?_, TpAll.mono e _ _ a3⟩
    rw [a2]
    unfold rkDict
    rw [List.map_map]
    rfl
theorem jd_isTupZ (h : Jd Γ ta (rowsZ fm)) (h2 : Jd Γ tb (tyT "tuple")) : Jd Γ (tCB (rIsi K) (tCons ta (tCons tb tNil))) (dt (.bool true)) := jd_cb (ja_cons h (ja_cons h2 ja_nil)) fun vs H Q p k => by
    obtain ⟨v, c, rfl, pv, e⟩ := fits2 p
    obtain ⟨r, o, us, rfl, q2, q3, q4⟩ := pv
    have e : c = .ty "tuple" := e
    subst e
    exact ⟨.ref r, .ty "tuple", .type "tuple", .type "tuple", true, rfl, .ty "tuple", .fTuple q2, kit_ty (by decide +kernel), k _ H (Same.refl H) (dt_bl _)⟩
theorem ji_tupZ (h : Jd Γ tl (rowsZ fm)) : Ji Γ (iSeq K tl) fm fun x => dt (rkD x) := fun σ H ty R k => by
  refine .inr (h σ H ty _ fun v H1 e1 p => ?_)
  obtain ⟨a, o, vs, rfl, h1, h3, h2⟩ := p
  have hlen : vs.length = fm.length := by rw [h2.length, List.length_map]
  refine ⟨a, rfl, ⟨vs, .inl (.inr ⟨o, h1⟩)⟩, k (Itt K a) H1 (fun H => H a = some (.frz o (.tup vs))) (YAt vs) e1 (hlen ▸ walk_tup.mono (fun H z => .inl (.inr ⟨o, z⟩)) fun i H x H' _ _ y => y) h1 (fun Ha Hb e z => e.get z) fun i Ha x Hb e z hi y => ?_⟩
  obtain ⟨rfl, hx⟩ := y
  obtain ⟨d, hd, pd⟩ := h2.got hx
  obtain ⟨b, hb, rfl⟩ := map_at hd
  exact ⟨b, hb, Same.refl _, Tp.mono e _ _ pd⟩
/-- zip(rows, rows[1:]) -/
theorem walk_zipT {K : PySem.W.Frag} {a b : Addr} {xs ys : List V} {n : Nat} (hn : n = min xs.length ys.length) : Walk (ItzT K a b) n (fun H => SqT K H a xs ∧ SqT K H b ys) (YPair (fun i => xs[i]?) (fun i => ys[i]?)) := by
  subst hn
  refine ⟨fun i H hi q => ?_, fun H q => ⟨xs, ys, q.1, q.2, by omega⟩, fun i H v H' hi q y => ?_⟩
  · have h1 : i < xs.length := by omega
    have h2 : i < ys.length := by omega
    exact ⟨xs, ys, xs[i], ys[i], q.1, q.2, List.getElem?_eq_getElem h1, List.getElem?_eq_getElem h2⟩
  · obtain ⟨t, x, z, h1, h2, h3, h4, h5⟩ := y
    exact ⟨t, x, z, h1, h2, h3, h4 xs q.1, h5 ys q.2⟩
theorem ji_zipZ {x0 : List Int × Int} (h1 : Jd Γ ta (rowsZ (x0 :: fm))) : Ji Γ (iZipA K (tCons ta (tCons (tSl (rSlA K) ta (tPart (tC (.int 1))) tNoPart) tNil))) ((x0 :: fm).zip fm) fun z => dt (.tuple [rkD z.1, rkD z.2]) := fun σ H ty R k => by
  refine h1 σ H ty _ fun v H1 e1 p1 => h1 σ H1 (ty.mono e1) _ fun v2 H2 e2 p2 => ⟨1, rfl, ?_⟩
  obtain ⟨a, o, vs, rfl, q1, q2, q3⟩ := p1
  obtain ⟨b, o2, ws, rfl, g1, g2, g3⟩ := p2
  have lw : ws.length = fm.length + 1 := by rw [g3.length, List.length_map, List.length_cons]
  have lo : HT.sIx ws.length 0 (some 1) = 1 := by
    rw [lw, show (some (1 : Int)) = some ((1 : Nat) : Int) from rfl, HT.sIx_nat]
    omega
  have cut : cutV ws (some 1) none = ws.drop 1 := by
    unfold cutV
    rw [lo, HT.sIx_none]
    exact List.take_of_length_le (by rw [List.length_drop]; exact Nat.le_refl _)
  refine ⟨b, ws, rfl, .inl (.inr ⟨o2, g1⟩), fun z => (by rw [lo] at z; cases z.1), fun _ c hc => ?_⟩
  rw [cut]
  have e3 : Same H2 (upd H2 c (.tup (ws.drop 1))) := same_upd hc
  have e13 := e2.trans e3
  have tl : TpAll (upd H2 c (.tup (ws.drop 1))) (fm.map rkD) (ws.drop 1) := by
    have := (TpAll.mono e3 _ _ g3).drop 1
    simpa using this
  have fa : upd H2 c (.tup (ws.drop 1)) a = some (.frz o (.tup vs)) := e13.get q1
  have q3' := TpAll.mono e13 _ _ q3
  have n1 : ((x0 :: fm).zip fm).length = min vs.length (ws.drop 1).length := by rw [q3.length, tl.length, List.length_zip, List.length_map, List.length_map]
  refine ⟨a, c, vs, ws.drop 1, rfl, .inr ⟨.inl (.inr ⟨o, fa⟩), SqT.of upd_same, k (ItzT K a c) _ (fun H => H a = some (.frz o (.tup vs)) ∧ H c = some (.tup (ws.drop 1))) _ ((e1.trans e2).trans e3) ((walk_zipT n1).mono (fun H z => ⟨.inl (.inr ⟨o, z.1⟩), SqT.of z.2⟩) fun i H x H' _ _ y => y) ⟨fa, upd_same⟩ (fun Ha Hb e z => ⟨e.get z.1, e.get z.2⟩) fun i Ha x Hb e z hi y => ?_⟩⟩
  obtain ⟨t, u, w, rfl, hn, rfl, hu, hw⟩ := y
  obtain ⟨d1, hd1, pd1⟩ := q3'.got hu
  obtain ⟨d2, hd2, pd2⟩ := tl.got hw
  obtain ⟨x1, hx1, rfl⟩ := map_at hd1
  obtain ⟨x2, hx2, rfl⟩ := map_at hd2
  have sm : Same Ha (upd Ha t (.tup [u, w])) := same_upd hn
  exact ⟨(x1, x2), List.getElem?_zip_eq_some.mpr ⟨hx1, hx2⟩, sm, tp_tuple.mpr ⟨t, _, rfl, upd_same, TpAll.cons (Tp.mono (e.trans sm) _ _ pd1) (TpAll.one (Tp.mono (e.trans sm) _ _ pd2))⟩⟩
theorem jd_ltT {s t : List Int} (h1 : Jd Γ ta (dt (sD s))) (h2 : Jd Γ tb (dt (sD t))) : Jd Γ (tOp (rLtT K) ta tb) (dt (.bool (HT.lexLt s t))) :=
  jd_op h1 h2 fun x y H Q p1 p2 k => by
    obtain ⟨a, rfl, q1⟩ := tp_sD.mp p1
    obtain ⟨b, rfl, q2⟩ := tp_sD.mp p2
    exact ⟨a, b, s, t, rfl, rfl, SqT.of q1, SqT.of q2, k _ H (Same.refl H) (dt_bl _)⟩
end
theorem z_zip {X : Cx} {K : PySem.W.Frag} (hK : X.K = K) {e e2 : Expr} {ta : TA} {p pos tpos : Pos} {elts : List Expr} {kk : Nat} (hg : Gl X "zip") (hm : X.mg "zip" = none) (ha : PA X [e, e2] ta)
    (hs : starEach [e, e2] X.env = (false, eval e X.env) :: starEach [e2] X.env := by rfl) (hpl : (backTo pos (starEach [e2] X.env)).any (·.1) = false := by rfl) : PI X (.Tuple elts kk tpos) (.Call (.Name "zip" p) [e, e2] [] pos) (iZipA K ta) := by
  subst hK
  exact pi_zipA hg hm ha hs hpl
end Ost
set_option Elab.async false
set_option linter.all false
set_option maxRecDepth 100000
set_option maxHeartbeats 1000000
/-! D13: ranks. -/
namespace Ost
open PySem PySem.Spec PyProof.Rows L2
open C8 (Cal pe_c Mak pe_mk Met pe_gc)
open RZ (ItzT iZipA)

theorem jm_open {Γ Γ' : Mm} {i : Nat} {T R : VT} {s1 : TS} {C : Prop} {α : Type} {T' : α → VT} (hi : Γ[i]? = some (some (.arg T))) (ho : ∀ v H, T.P v H → ∃ x, (T' x).P v H) (h : ∀ x, Jm (Γ.set i (some (.arg (T' x)))) s1 Γ' C R) : Jm Γ s1 Γ' C R := fun H0 σ H ty D k r => by
  obtain ⟨v, h1, h2⟩ := ty.at_ i _ hi
  obtain ⟨x, px⟩ := ho v H0 h2
  have lt := (List.getElem?_eq_some_iff.mp hi).1
  have ty2 : TyM H0 (Γ.set i (some (.arg (T' x)))) σ H := by
    refine ⟨ty.same, by rw [List.length_set]; exact ty.len, fun j t q => ?_, fun j k s t v ne a b so to => ?_⟩
    · rcases set_at q with ⟨rfl, e⟩ | ⟨_, q'⟩
      · cases e; exact ⟨v, h1, px⟩
      · exact ty.at_ j t q'
    · rcases set_at a with ⟨_, e⟩ | ⟨_, a'⟩
      · cases e; cases so
      · rcases set_at b with ⟨_, e⟩ | ⟨_, b'⟩
        · cases e; cases to
        · exact ty.apart j k s t v ne a' b' so to
  refine h x H0 σ H ty2 D (fun c σ' H' f ty' => k c σ' H' (fun a o ho n fo => f a o ho n fun j t q so => ?_) ty') r
  rcases set_at q with ⟨_, e⟩ | ⟨_, q'⟩
  · cases e; cases so
  · exact fo j t q' so
theorem Jm.never {Γ Γ' : Mm} {s1 : TS} {C : Prop} {R : VT} (h : Jm Γ s1 Γ' C nvT) : Jm Γ s1 Γ' C R := fun H0 σ H ty D k r => h H0 σ H ty D k fun v H' _ p => p.elim
/-- a while, and what comes behind it -/
theorem jm_whileR {Γ' : Mm} {c : TT} {R : VT} {C : Prop} {β : Type} {tb s2 : TS} {Γs : β → Mm} {P : β → Prop} {μ : β → Nat} (x0 : β) (p0 : P x0)
    (hs : ∀ x, P x → ∃ b, Jt (vtG (Γs x)) c b ∧ (b = true → ∃ y C2, (C2 → P y ∧ μ y < μ x) ∧ Jm (Γs x) tb (Γs y) C2 R) ∧ (b = false → Jm (Γs x) s2 Γ' C R)) : Jm (Γs x0) (tSeq (tWhile c tb) s2) Γ' C R := fun H0 σ H ty D k r => by
  refine ⟨fun m σ' H' => ∃ x, P x ∧ μ x = m ∧ Fra (Γs x0) σ H (Γs x) σ' H' ∧ TyM H0 (Γs x) σ' H', ⟨_, x0, p0, rfl, Fra.refl, ty⟩, ?_⟩
  rintro m σ' H' ⟨x, px, rfl, f, ty'⟩
  obtain ⟨b, hb, h1, h2⟩ := hs x px
  refine hb σ' H' ty'.ty _ fun H1 e => ?_
  cases b with
  | true =>
    obtain ⟨y, C2, hy, hj⟩ := h1 rfl
    exact ⟨fun σ2 H2 => ∃ m', m' < μ x ∧ ∃ x, P x ∧ μ x = m' ∧ Fra (Γs x0) σ H (Γs x) σ2 H2 ∧ TyM H0 (Γs x) σ2 H2, fun σ2 H2 q => q, hj H0 σ' H1 (ty'.mono e) _ (fun c2 σ2 H2 f2 ty2 => ⟨μ y, (hy c2).2, y, (hy c2).1, rfl, (f.trans (Fra.same e)).trans f2, ty2⟩) r⟩
  | false => exact h2 rfl H0 σ' H1 (ty'.mono e) D (fun c σ2 H2 f2 ty2 => k c σ2 H2 ((f.trans (Fra.same e)).trans f2) ty2) r

def ranksT (a b : Ch) (st p : List Int) : VT := ⟨fun v H => ∃ fm, RkOk a b st p fm ∧ (dicT (rkDict fm)).P v H, fun e h => by
  obtain ⟨fm, h1, h2⟩ := h
  exact ⟨fm, h1, (dicT _).mono e h2⟩⟩
theorem RkPre.few {a b : Ch} {st p : List Int} {fm : RkL} (F : RkPre a b st p fm) (D : Dom1 a b st p) : fm.length ≤ 64 := by
  have := sets_few D.two.few F.nd fun s hs => by
    obtain ⟨x, hx, rfl⟩ := List.mem_map.mp hs
    exact reach_set2 D.two D.hst D.hpt (F.rk x hx)
  rw [List.length_map] at this
  exact this
theorem readyL_app {a b : Ch} {st : List Int} {fm : RkL} {l m : List (List Int)} : readyL a b st fm (l ++ m) = readyL a b st fm l ++ readyL a b st fm m := by
  unfold readyL
  rw [List.filter_append, List.map_append]
theorem rkDict_vals (fm : RkL) : noLs ((rkDict fm).map (·.2)) = true := by
  unfold rkDict
  rw [List.map_map]
  exact noLs_of fun d hd => by obtain ⟨x, _, rfl⟩ := List.mem_map.mp hd; exact noL_int _

abbrev N_ring_ranks : List Str := ["graph", "found", "is_more", "ready", "here", "offer", "behind", "number"]
theorem sc_ring_ranks : FnScope N_ring_ranks ["graph"] (defScope s_ring_ranks) := ⟨rfl, rfl, rfl, by decide +kernel, rfl, by decide +kernel, by decide +kernel⟩
def sg_ring_ranks (C : Cn) : Sg (Ch × Ch × List Int × List Int) := ⟨fun x => Dom1 x.1 x.2.1 x.2.2.1 x.2.2.2, fun x => [graphT C x.1 x.2.1 x.2.2.1 x.2.2.2], fun x => ranksT x.1 x.2.1 x.2.2.1 x.2.2.2⟩
def sp_ring_ranks (C : Cn) : Sp := (sg_ring_ranks C).sp
theorem ok_ring_ranks {P : Program} {w : World} {K : PySem.W.Frag} {mg : Str → Option Value} {base : Heap} {C : Cn} {f : Addr} {fd : FuncData} (F : FunD K "ring_ranks" "ring_ranks" (defArgs s_ring_ranks) (defBody s_ring_ranks) (defScope s_ring_ranks) [] [] f fd) (m : mg "ring_ranks" = some (.ref f)) (T : Top K mg C) :
    Cal P w K mg base 1 "ring_ranks" (sp_ring_ranks C) [] := by
  refine cal_of F (fn_jm (S := sg_ring_ranks C) (k := 0) F sc_ring_ranks (fun _ => rfl) fun cdv A outer s H E hr => ⟨_, PSs.nox ((pss_cons (ps_asg (pe_tup (pa_cons pe_dnewT (pa_cons pe_bl pa_nil))) (g_tup (K := K) (n := 2) rfl (by rfl) (pgs_cons (pg_name (i := 1) sc_ring_ranks.nd rfl (Or.inr rfl)) (pgs_cons (pg_name (i := 2) sc_ring_ranks.nd rfl (Or.inl rfl)) pgs_nil))))
    (pss_cons (ps_while PassesOwn.never (pt_val (pv 2)) (pss_cons (ps_set (i := 3) sc_ring_ranks.nd rfl (Or.inl rfl) (pe_lst pa_nil))
    (pss_cons (ps_lock (ps_for PassesOwn.never rfl (pi_keys (pv 0)) (pg_name (i := 4) sc_ring_ranks.nd rfl (Or.inl rfl)) (pss_one (ps_if (PW.pt (pw_and (pt_cmp (pc_dnotin (hu_of hr) (pv 4) (pv 1))) (pw_and1 (pt_val (pe_callB (c_all (K := K) rfl rfl) (by rfl) T.all_ boot_all (pa_cons (pe_lc (own := [("offer", 5), ("behind", 6)]) rfl sc_ring_ranks.nd (i_seq (K := K) rfl (pe_dget (hu_of hr) (pv 0) (pv 4) (fun _ _ => rfl))) (blkOk_by (own := [("offer", 5), ("behind", 6)]) (N := N_ring_ranks) (sc := defScope s_ring_ranks) (by decide +kernel)) (fun _ _ _ _ _ => (g_tup (K := K) (n := 2) rfl (by rfl) (pgs_cons (pg_name (i := 5) sc_ring_ranks.nd rfl (Or.inl rfl)) (pgs_cons (pg_name (i := 6) sc_ring_ranks.nd rfl (Or.inl rfl)) pgs_nil)))) (fun _ _ _ _ _ => pts_nil) (fun _ _ _ _ _ => (pe_cmp (pc_din (hu_of hr) (pv 6) (pv 1))))) pa_nil)))))) (pss_one (ps_expr (pe_bm PySem.F.plainAttrs_list PySem.F.slot_list_append PySem.F.type_list_append mt_append (pv 3) (pa_cons (pe_tup (pa_cons (pv 4) (pa_cons (pe_callB (c_max (K := K) rfl rfl) (by rfl) T.max_ boot_max (pa_cons (pe_op (o_add (K := K) rfl) (pe_lst (pa_cons pe_int pa_nil)) (pe_lc (own := [("offer", 5), ("behind", 6)]) rfl sc_ring_ranks.nd (i_seq (K := K) rfl (pe_dget (hu_of hr) (pv 0) (pv 4) (fun _ _ => rfl))) (blkOk_by (own := [("offer", 5), ("behind", 6)]) (N := N_ring_ranks) (sc := defScope s_ring_ranks) (by decide +kernel)) (fun _ _ _ _ _ => (g_tup (K := K) (n := 2) rfl (by rfl) (pgs_cons (pg_name (i := 5) sc_ring_ranks.nd rfl (Or.inl rfl)) (pgs_cons (pg_name (i := 6) sc_ring_ranks.nd rfl (Or.inl rfl)) pgs_nil)))) (fun _ _ _ _ _ => pts_nil) (fun _ _ _ _ _ => (pe_op (o_add (K := K) rfl) (pe_dget (hu_of hr) (pv 1) (pv 6) (fun _ _ => rfl)) pe_int)))) pa_nil)) pa_nil))) pa_nil)))) pss_nil))))
    (pss_cons (ps_set (i := 2) sc_ring_ranks.nd rfl (Or.inl rfl) (pe_cmpR (o_ne (K := K) rfl hr.units) (pv 3) (pe_lst pa_nil) (nomark _)))
    (pss_one (ps_for PassesOwn.never rfl (i_seq (K := K) rfl (pv 3)) (g_tup (K := K) (n := 2) rfl (by rfl) (pgs_cons (pg_name (i := 4) sc_ring_ranks.nd rfl (Or.inl rfl)) (pgs_cons (pg_name (i := 7) sc_ring_ranks.nd rfl (Or.inl rfl)) pgs_nil))) (pss_one (ps_dput (hu_of hr) (pv 1) (pv 4) (pv 7) rfl))))))))
    (pss_one (ps_ret (pv 1)))))), fun x hd => ?_⟩) m (fun _ _ _ _ _ _ us hl => match us, hl with | [_], _ => rfl)
  obtain ⟨a, b, st, p⟩ := x
  have hd : Dom1 a b st p := hd
  have h6 := hd.two.few
  refine ⟨[none, none, none, none, none, none, none, none], False, jm_open (i := 0) rfl (T' := fun ks : { ks // IsGraph a b st p ks } => dicT (gm a b st ks.1)) (fun v H h => by obtain ⟨ks, h1, h2, h3⟩ := h; exact ⟨⟨ks, h1⟩, h2⟩) fun ks => ?_, fun z => z.elim⟩
  obtain ⟨ks, g⟩ := ks
  have few := g.few hd.two hd.hst hd.hpt
  have hr : ∀ s ∈ ks, Reach a b st p s := fun s hs => (g.mem s).mp hs
  let G_ : RkL × Bool → Mm := fun x => [some (.arg (dicT (gm a b st ks))), some (.dic (rkDict x.1)), some (.dat (.bool x.2)), none, none, none, none, none]
  refine jm_seq (jm_asgT2 (i := 1) (j := 2) (t1 := .dic []) (t2 := .dat (.bool true)) mv_dic (mv_dat jd_bl (by simp [noL]))) fun _ => jm_whileR (Γs := G_) (P := fun x => RkPre a b st p x.1 ∧ (x.2 = false → RkOk a b st p x.1)) (μ := fun x => if x.2 = true then 66 - x.1.length else 0) ([], true) ⟨RkPre.start a b st p, fun z => by cases z⟩ fun x px => ?_
  obtain ⟨fm, more⟩ := x
  obtain ⟨F, hF⟩ := px
  have F : RkPre a b st p fm := F
  have lf := F.few hd
  refine ⟨more, jt_B (jd_var (i := 2) rfl), fun hm => ?_, fun hm => ?_⟩
  · subst hm
    have F2 : RkPre a b st p (fm ++ readyL a b st fm ks) := F.round g.nd hr
    have lf2 := F2.few hd
    let rd := readyL a b st fm ks
    rw [List.length_append] at lf2
    have lrd : rd.length ≤ 64 := by show (readyL a b st fm ks).length ≤ 64; omega
    have mvl : ∀ s ∈ ks, (movesOf a b st s).length ≤ 6 := fun s hs => by
      unfold movesOf
      rw [List.length_map]
      exact len6 (isSet_wished hd.hst) h6
    refine ⟨(fm ++ rd, !decide (rd = [])), True, fun _ => ⟨⟨F2, fun z => ?_⟩, ?_⟩, ?_⟩
    · have e : rd = [] := by simpa using z
      show RkOk a b st p (fm ++ rd)
      rw [e, List.append_nil]
      exact F.done g.mem e
    · show (if (!decide (rd = [])) = true then 66 - (fm ++ rd).length else 0) < (if true = true then 66 - fm.length else 0)
      rw [if_pos rfl]
      by_cases e : rd = []
      · rw [decide_eq_true e]
        show (if false = true then _ else 0) < _
        rw [if_neg Bool.false_ne_true]
        omega
      · rw [decide_eq_false e]
        show (if true = true then 66 - (fm ++ rd).length else 0) < _
        rw [if_pos rfl, List.length_append]
        have : rd.length ≠ 0 := fun z => e (List.length_eq_zero_iff.mp z)
        omega
    · have gk := gm_keys a b st ks
      have gl : (gm a b st ks).length = ks.length := by unfold gm; rw [List.length_map]
      refine jm_seq (jm_new (ds := []) (jf_lst ja_nil (by simp)) rfl) fun _ => ?_
      -- the ready ones
      refine jm_seq (Jm.never (jm_lock (i := 0) (m := gm a b st ks) (C := True) (Γ' := [none, some (.dic (rkDict fm)), some (.dat (.bool true)), some (.own (rd.map rkD)), none, none, none, none]) rfl (fun k t hk q => ?_) (fun k t hk q => ?_) (fun v H d kvs od h => Iff.rfl) (by show 0 < 8; decide) fun d => ?_)) fun _ => ?_
      · match k, hk, q with
        | 0, hk, _ => exact absurd rfl hk
        | 1, _, q => cases q
        | 2, _, q => cases q
        | 3, _, q => cases q
        | 4, _, q => cases q
        | 5, _, q => cases q
        | 6, _, q => cases q
        | 7, _, q => cases q
        | k + 8, _, q => exact absurd (List.getElem?_eq_some_iff.mp q).1 (by show ¬ k + 8 < 8; omega)
      · match k, hk, q with
        | 0, hk, _ => exact absurd rfl hk
        | 1, _, q => cases q
        | 2, _, q => cases q
        | 3, _, q => cases q
        | 4, _, q => cases q
        | 5, _, q => cases q
        | 6, _, q => cases q
        | 7, _, q => cases q
        | k + 8, _, q => exact absurd (List.getElem?_eq_some_iff.mp q).1 (by show ¬ k + 8 < 8; omega)
      · have fin : readyL a b st fm (ks.take (gm a b st ks).length) = rd := by rw [gl, List.take_of_length_le (Nat.le_refl _)]
        refine Jm.imp (jm_forK (i := 0) (d := d) (m := gm a b st ks) (bd := fun s Γ => Γ.set 4 (some (.dat (sD s)))) (Γs := fun j => [some (.arg (dicZ d (gm a b st ks))), some (.dic (rkDict fm)), some (.dat (.bool true)), some (.own ((readyL a b st fm (ks.take j)).map rkD)), none, none, none, none]) (C := fun _ => True) rfl (tm_name 4) trivial fun j s hs _ => ?_) id ?_
        · rw [gk] at hs
          have ms := List.mem_of_getElem? hs
          have gz : ∀ {Γ : Gm}, Γ[0]? = some (some (dicZ d (gm a b st ks))) → Jd Γ (tVar 0) (dicF (gm a b st ks)) := fun {Γ} e => Jd.imp (jd_var e) fun v H h => dicZ_F h
          have fz : ∀ {Γ : Gm}, Γ[1]? = some (some (dicT (rkDict fm))) → Jd Γ (tVar 1) (dicF (rkDict fm)) := fun {Γ} e => Jd.imp (jd_var e) fun v H h => dicT_F h
          have lg : lookD (gm a b st ks) s = some (.list ((movesOf a b st s).map movD)) := by rw [lookD_gm, if_pos ms]
          have sm : ∀ {o : Option Int}, (o.map PyData.int).isSome = o.isSome := fun {o} => by cases o <;> rfl
          have nx : readyL a b st fm (ks.take (j + 1)) = readyL a b st fm (ks.take j) ++ (if readyB a b st fm s = true then [(s, nextRk a b st fm s)] else []) := by
            rw [take_snoc hs, readyL_app]
            congr 1
            unfold readyL
            by_cases hc : readyB a b st fm s = true
            · rw [if_pos hc, List.filter_cons_of_pos hc]; rfl
            · rw [if_neg hc, List.filter_cons_of_neg hc]; rfl
          have lj : (readyL a b st fm (ks.take j)).length ≤ 64 := by
            unfold readyL
            rw [List.length_map]
            have := List.length_filter_le (readyB a b st fm) (ks.take j)
            have := List.length_take_le' j ks
            omega
          refine jm_if (b := readyB a b st fm s) (Jt.eq (jt_and (b := (rkOf fm s).isNone) (c := (movesOf a b st s).all fun y => (rkOf fm y.2).isSome) (Jt.eq (jt_B (jd_dnotin (jd_var (i := 4) rfl) (fz rfl))) ?_) fun _ => jt_B ((jd_all (bs := (movesOf a b st s).map fun y => (rkOf fm y.2).isSome) (jd_of_jf (Jf.eq (jf_lc (xs := movesOf a b st s) (Y := fun x => dt (movD x)) (bind := fun x Γ => (Γ.set 5 (some (dt (.int x.1)))).set 6 (some (dt (sD x.2)))) (p := fun _ => true) (q := fun y => .bool (rkOf fm y.2).isSome) (ji_lst (D := movD) (jd_dget (gz rfl) (jd_var (i := 4) rfl) lg)) (tg_pair (A := fun x : Int × List Int => .int x.1) (B := fun x => sD x.2) 5 6) (fun x hx => jt_yes) (fun x hx _ => (jd_din (jd_var (i := 6) rfl) (fz rfl)).eq (by rw [lookD_rk, sm])) (by have := mvl s ms; omega) (fun x _ _ => by simp [noL])) ?_))).eq ?_)) rfl) (fun hc => ?_) (fun hc => ?_)
          · rw [lookD_rk, sm]
            cases rkOf fm s <;> rfl
          · rw [List.filter_eq_self.mpr (fun _ _ => rfl), List.map_map]
            rfl
          · rw [List.all_map]
            rfl
          · rw [if_pos hc] at nx
            have hr2 : ∀ y ∈ movesOf a b st s, ∃ l, rkOf fm y.2 = some l := fun y hy => by
              unfold readyB at hc
              rw [Bool.and_eq_true, List.all_eq_true] at hc
              exact Option.isSome_iff_exists.mp (hc.2 y hy)
            have mx := foldl_max (L := (movesOf a b st s).map fun y => (rkOf fm y.2).getD 0 + 1) (m := 0)
            refine jm_weak (jm_append (ds := (readyL a b st fm (ks.take j)).map rkD) (d := rkD (s, nextRk a b st fm s)) (i := 3) rfl (jd_tup (ds := [sD s, .int (nextRk a b st fm s)]) (ja_cons (jd_var (i := 4) rfl) (ja_cons (jd_max (ns := 0 :: (movesOf a b st s).map fun y => (rkOf fm y.2).getD 0 + 1) (m := nextRk a b st fm s) (jd_of_jf (Jf.eq (jf_cat (ds := [.int 0]) (es := (movesOf a b st s).map fun y => .int ((rkOf fm y.2).getD 0 + 1)) (jd_of_jf (jf_lst (ds := [.int 0]) (ja_cons jd_int ja_nil) (by simp))) (jd_of_jf (Jf.eq (jf_lc (xs := movesOf a b st s) (Y := fun x => dt (movD x)) (bind := fun x Γ => (Γ.set 5 (some (dt (.int x.1)))).set 6 (some (dt (sD x.2)))) (p := fun _ => true) (q := fun y => .int ((rkOf fm y.2).getD 0 + 1)) (ji_lst (D := movD) (jd_dget (gz rfl) (jd_var (i := 4) rfl) lg)) (tg_pair (A := fun x : Int × List Int => .int x.1) (B := fun x => sD x.2) 5 6) (fun x hx => jt_yes) (fun x hx _ => jd_addI (jd_dget (d := .int ((rkOf fm x.2).getD 0)) (fz rfl) (jd_var (i := 6) rfl) (by rw [lookD_rk]; obtain ⟨l, hl⟩ := hr2 x hx; rw [hl]; rfl)) jd_int) (by have := mvl s ms; omega) (fun x _ _ => noL_int _)) ?_)) ?_) ?_)) ?_ ?_) ja_nil)) (by simp)) (noL_rkD _) (by rw [List.length_map]; omega)) ⟨rfl, rfl, rfl, ?_, trivial⟩
            · rw [List.filter_eq_self.mpr (fun _ _ => rfl)]
            · rw [List.length_map]
              have := mvl s ms
              show 1 + _ ≤ 1000
              omega
            · show _ = (0 :: (movesOf a b st s).map fun y => (rkOf fm y.2).getD 0 + 1).map PyData.int
              rw [List.map_cons, List.map_map]
              rfl
            · rcases mx.2.2 with e | e
              · rw [show nextRk a b st fm s = 0 from e]; exact List.mem_cons_self ..
              · exact List.mem_cons_of_mem _ e
            · intro y hy
              rcases List.mem_cons.mp hy with e | e
              · rw [e]; exact mx.1
              · exact mx.2.1 y e
            · rw [nx]
              show some (MT.own ((readyL a b st fm (ks.take j)).map rkD ++ [rkD (s, nextRk a b st fm s)])) = some (MT.own ((readyL a b st fm (ks.take j) ++ [(s, nextRk a b st fm s)]).map rkD))
              rw [List.map_append]
              rfl
          · rw [if_neg (by rw [hc]; exact Bool.false_ne_true), List.append_nil] at nx
            exact jm_weak (jm_next trivial) ⟨rfl, rfl, rfl, by rw [nx], trivial⟩
        · show Mle _ [some (.arg (dicZ d (gm a b st ks))), _, _, _, _, _, _, _]
          exact ⟨rfl, rfl, rfl, by rw [fin], trivial⟩
      -- the ranks told
      · refine jm_seq (jm_asg (i := 2) (d := .bool (!decide (rd = []))) ((jd_neD (jd_var (i := 3) (T := dt (.list (rd.map rkD))) rfl) (jd_of_jf (jf_lst (ds := []) ja_nil (by simp))) (sh_listOf (fun x => (sh_tup (k := 1) fun d hd => by
          simp only [List.mem_cons, List.not_mem_nil, or_false] at hd
          rcases hd with rfl | rfl
          · exact sh_sD _
          · exact sh_int _).up (by decide)) rd) (sh_setsL [])).eq (by rw [eqv_nil_map])) (by simp [noL])) fun _ => ?_
        have fin : fm ++ rd.take rd.length = fm ++ rd := by rw [List.take_of_length_le (Nat.le_refl _)]
        have st0 : (fm ++ rd.take 0 : RkL) = fm := by rw [List.take_zero, List.append_nil]
        refine Jm.imp (jm_for (xs := rd) (Y := rkD) (bd := fun x Γ => (Γ.set 4 (some (.dat (sD x.1)))).set 7 (some (.dat (.int x.2)))) (Γs := fun j => [some (.arg (dicT (gm a b st ks))), some (.dic (rkDict (fm ++ rd.take j))), some (.dat (.bool (!decide (rd = [])))), none, none, none, none, none]) (C := fun _ => True) (isT := false) (by rw [st0]; exact src_own (j := 3) rfl) (fun x _ => noL_rkD x) (tm_pair (A := fun x : List Int × Int => sD x.1) (B := fun x => .int x.2) 4 7) trivial fun j x hx _ => ?_) (fun _ => trivial) ?_
        · have nk : rkOf (fm ++ rd.take j) x.1 = none := by
            cases hk : rkOf (fm ++ rd.take j) x.1 with
            | none => rfl
            | some l =>
              have m1 := rkOf_some hk
              have nd := F2.nd
              have e : (fm ++ readyL a b st fm ks) = (fm ++ rd.take j) ++ rd.drop j := by rw [List.append_assoc, List.take_append_drop]
              rw [e, List.map_append] at nd
              have hx2 : x ∈ rd.drop j := by
                obtain ⟨hj, ex⟩ := List.getElem?_eq_some_iff.mp hx
                rw [List.drop_eq_getElem_cons hj, ex]
                exact List.mem_cons_self ..
              exact absurd rfl ((List.nodup_append.mp nd).2.2 x.1 (List.mem_map.mpr ⟨_, m1, rfl⟩) x.1 (List.mem_map.mpr ⟨x, hx2, rfl⟩))
          refine jm_weak (jm_dput (i := 1) (m := rkDict (fm ++ rd.take j)) (s := x.1) (d := .int x.2) rfl (jd_var (i := 4) rfl) (jd_var (i := 7) rfl) (noL_int _) (by rw [lookD_rk, nk]; rfl) ?_) ⟨rfl, ?_, rfl, trivial⟩
          · unfold rkDict
            rw [List.length_map, List.length_append]
            have := List.length_take_le' j rd
            omega
          · show some (MT.dic (rkDict (fm ++ rd.take j) ++ [(x.1, .int x.2)])) = some (MT.dic (rkDict (fm ++ rd.take (j + 1))))
            rw [take_snoc hx, ← List.append_assoc]
            unfold rkDict
            rw [List.map_append (l₂ := [x])]
            rfl
        · exact ⟨rfl, by rw [fin], rfl, trivial⟩
  · subst hm
    have := hF rfl
    exact jm_ret (Jd.imp (jd_var (i := 1) (T := dicT (rkDict fm)) rfl) fun v H hv => ⟨fm, this, hv⟩)
end Ost
set_option Elab.async false
set_option linter.all false
set_option maxRecDepth 100000
set_option maxHeartbeats 1000000
/-! M9: rows of ranks, sorted. -/
namespace Ost
open PySem PySem.Spec PyProof.Rows
open PySem.W (dataLe dataLt keyToks keyToksAll alike alikeAll)
open PyProof.Rows (itemOrd)
theorem RkOk.congr {a b : Ch} {st p : List Int} {fm gm : RkL} (F : RkOk a b st p fm) (nd : (gm.map (·.1)).Nodup) (h : ∀ x, x ∈ gm ↔ x ∈ fm) : RkOk a b st p gm := by
  refine ⟨⟨nd, fun x hx => F.rk x ((h x).mp hx), fun x hx => F.r0 x ((h x).mp hx), fun x hx y hy => ?_, fun x hx => ?_⟩, fun s hs hm => ?_⟩
  · obtain ⟨l, h1, h2⟩ := F.lt x ((h x).mp hx) y hy
    exact ⟨l, (h _).mpr h1, h2⟩
  · rcases F.ex x ((h x).mp hx) with e | ⟨y, hy, h1⟩
    · exact .inl e
    · exact .inr ⟨y, hy, (h _).mpr h1⟩
  · obtain ⟨k, hk⟩ := F.cl s hs fun y hy => by
      obtain ⟨l, hl⟩ := hm y hy
      exact ⟨l, (h _).mp hl⟩
    exact ⟨k, (h _).mpr hk⟩
theorem lex_sets : ∀ (s t : List Int), PyProof.Rows.lexLt itemOrd (keyToksAll (s.map .int)) (keyToksAll (t.map .int)) = HT.lexLt s t
  | [], [] => by simp only [List.map_nil, keyToksAll]; rw [PyProof.Rows.lex_irrefl]; rfl
  | [], y :: t => by
    simp only [List.map_nil, List.map_cons, keyToksAll]
    rw [PyProof.Rows.lex_diff (O := itemOrd) (by decide)]
    rfl
  | x :: s, [] => by
    simp only [List.map_nil, List.map_cons, keyToksAll]
    rw [PyProof.Rows.lex_diff (O := itemOrd) (by decide)]
    rfl
  | x :: s, y :: t => by
    simp only [List.map_cons, keyToksAll, keyToks, List.cons_append, List.nil_append]
    rw [PyProof.Rows.lex_self (O := itemOrd)]
    by_cases e : x = y
    · subst e
      rw [PyProof.Rows.lex_self (O := itemOrd), lex_sets s t]
      show _ = if x = x then HT.lexLt s t else decide (x < x)
      rw [if_pos rfl]
    · rw [PyProof.Rows.lex_diff (O := itemOrd) (fun h => e (Sum.inl.inj h))]
      show decide (x < y) = if x = y then HT.lexLt s t else decide (x < y)
      rw [if_neg e]
theorem dataLt_sets (s t : List Int) : dataLt (.tuple (s.map .int)) (.tuple (t.map .int)) = HT.lexLt s t := by
  rw [PySem.W.dataLt_tuple]
  exact lex_sets s t
theorem lexLt_anti {s t : List Int} (h1 : HT.lexLt s t = false) (h2 : HT.lexLt t s = false) : s = t := by
  rw [← dataLt_sets] at h1 h2
  exact toks_sD (PyProof.Rows.lex_total (O := itemOrd) _ _ h1 h2)
def rkD0 (x : List Int × Int) : PyData := .tuple [sD x.1, .int x.2]
theorem rk_pair {x y : List Int × Int} (n : x.1 ≠ y.1) : dataLt (rkD0 x) (rkD0 y) = HT.lexLt x.1 y.1 := by
  unfold rkD0
  rw [PySem.W.dataLt_pair (by simp only [alike]; exact alike_ints _ _) (by simp [alike]), eqv_sD, decide_eq_false n, if_neg Bool.false_ne_true]
  exact dataLt_sets _ _
def srtRk (fm : RkL) : RkL := fm.mergeSort (dataLe false rkD0)
theorem srtRk_mem {fm : RkL} {x : List Int × Int} : x ∈ srtRk fm ↔ x ∈ fm := (List.mergeSort_perm fm _).mem_iff
theorem srtRk_nodup {fm : RkL} (h : (fm.map (·.1)).Nodup) : ((srtRk fm).map (·.1)).Nodup := ((List.mergeSort_perm fm (dataLe false rkD0)).map (·.1)).nodup_iff.mpr h
theorem srtRk_len (fm : RkL) : (srtRk fm).length = fm.length := List.length_mergeSort fm
theorem srtRk_map (fm : RkL) : (fm.map rkD0).mergeSort (dataLe false id) = (srtRk fm).map rkD0 := by
  unfold srtRk
  rw [List.map_mergeSort (s := dataLe false id)]
  intro x _ y _
  rfl
/-- strictly rising sets -/
theorem srtRk_lt {fm : RkL} (h : (fm.map (·.1)).Nodup) : (srtRk fm).Pairwise fun x y => HT.lexLt x.1 y.1 = true := by
  have h1 := srt_le rkD0 fm
  have h2 : (srtRk fm).Pairwise fun x y => x.1 ≠ y.1 := by
    have := srtRk_nodup h
    unfold List.Nodup at this
    rwa [List.pairwise_map] at this
  refine (h1.and h2).imp fun {x y} ⟨a, n⟩ => ?_
  rw [dataLe_lt, rk_pair (Ne.symm n), Bool.not_eq_true'] at a
  cases hl : HT.lexLt x.1 y.1 with
  | true => rfl
  | false => exact absurd (lexLt_anti hl a) n
end Ost
set_option Elab.async false
set_option linter.all false
set_option maxRecDepth 100000
set_option maxHeartbeats 1000000
/-! K14: rules for ends: a list's index and slices, tuples of typed things, dict.get. -/
namespace Ost
open PySem PySem.Spec PyProof.Rows L2
open C8 (Cal pe_c Mak pe_mk Met pe_gc)
section
variable {Γ : Gm} {ta tb te tl : TE} {K : PySem.W.Frag} {d z : PyData} {ds : List PyData}
theorem jd_index {j : Nat} (h : Jd Γ tl (dt (.list ds))) (h2 : Jd Γ te (dt d)) (sl : SeqAt.shaped (.list ds) = true) (sd : SeqAt.shaped d = true) (hz : ds[j]? = some z) (hq : PyData.eqv z d = true) (hn : ∀ (m : Nat) (z' : PyData), m < j → ds[m]? = some z' → PyData.eqv z' d = false) :
    Jd Γ (tBM K "list" (rIndexD K) tl (tCons te tNil)) (dt (.int (j : Nat))) := fun σ H ty Q k => h σ H ty _ fun x H1 e1 p1 => by
  obtain ⟨l, vs, rfl, q1, q2⟩ := of_lst p1
  refine ⟨.inl ⟨rfl, _, SqL.of q1⟩, h2 σ H1 (ty.mono e1) _ fun y H2 e2 p2 => ?_⟩
  exact ⟨l, y, d, ds, j, z, rfl, rfl, Tp.dp _ _ (Tp.mono e2 _ _ p1), Tp.dp _ _ p2, sl, sd, hz, hq, hn, k _ H2 (e1.trans e2) (dt_int _)⟩
/-- xs[:j] of a list -/
theorem jf_slTo {j : Nat} (h : Jd Γ tl (dt (.list ds))) (h2 : Jd Γ te (dt (.int (j : Nat)))) : Jf Γ (tSl (rSlL K) tl tNoPart (tPart te)) (ds.take j) := fun σ H ty Q k => h σ H ty _ fun x H1 e1 p1 => h2 σ H1 (ty.mono e1) _ fun y H2 e2 p2 => by
  have := of_int p2
  subst this
  obtain ⟨l, vs, rfl, q1, q2⟩ := of_lst p1
  refine ⟨_, rfl, l, vs, rfl, SqL.of (e2.get q1), fun p hp => ?_⟩
  have cut : cutV vs none (some (j : Int)) = vs.take j := by
    unfold cutV
    rw [HT.sIx_none, HT.sIx_nat, List.drop_zero, Nat.sub_zero]
    by_cases c : j ≤ vs.length
    · rw [Nat.min_eq_left c]
    · rw [Nat.min_eq_right (by omega), List.take_of_length_le (Nat.le_refl _), List.take_of_length_le (by omega)]
  rw [cut]
  have e3 := same_upd (o := HO.lst (vs.take j)) hp
  exact k p _ _ ((e1.trans e2).trans e3) ((e1.trans e2).free hp) upd_same (TpAll.take j (TpAll.mono e3 _ _ (TpAll.mono e2 _ _ q2)))
/-- xs[j:] of a list -/
theorem jf_slFrom {j : Nat} (h : Jd Γ tl (dt (.list ds))) (h2 : Jd Γ te (dt (.int (j : Nat)))) : Jf Γ (tSl (rSlL K) tl (tPart te) tNoPart) (ds.drop j) := fun σ H ty Q k => h σ H ty _ fun x H1 e1 p1 => h2 σ H1 (ty.mono e1) _ fun y H2 e2 p2 => by
  have := of_int p2
  subst this
  obtain ⟨l, vs, rfl, q1, q2⟩ := of_lst p1
  refine ⟨_, rfl, l, vs, rfl, SqL.of (e2.get q1), fun p hp => ?_⟩
  have cut : cutV vs (some (j : Int)) none = vs.drop j := by
    unfold cutV
    rw [HT.sIx_none, HT.sIx_nat]
    by_cases c : j ≤ vs.length
    · rw [Nat.min_eq_left c]
      exact List.take_of_length_le (by rw [List.length_drop]; exact Nat.le_refl _)
    · rw [Nat.min_eq_right (by omega), Nat.sub_self, List.take_zero, List.drop_of_length_le (by omega)]
  rw [cut]
  have e3 := same_upd (o := HO.lst (vs.drop j)) hp
  exact k p _ _ ((e1.trans e2).trans e3) ((e1.trans e2).free hp) upd_same (TpAll.drop j (TpAll.mono e3 _ _ (TpAll.mono e2 _ _ q2)))
theorem atI_nat {α : Type} {xs : List α} {j : Nat} {x : α} (h : xs[j]? = some x) : atI xs (j : Int) = some x := by
  have lt := (List.getElem?_eq_some_iff.mp h).1
  unfold atI ixN
  rw [if_pos (by omega), if_pos (by omega), Int.toNat_natCast]
  exact h
theorem atI_zero {α : Type} {xs : List α} {x : α} : atI (x :: xs) 0 = some x := atI_nat (j := 0) rfl
def gotD (o : Option PyData) : PyData := o.getD .none
/-! ### tuples of typed things -/
def tupV (ts : List VT) : VT := ⟨fun v H => ∃ l vs, v = .ref l ∧ H l = some (.tup vs) ∧ Fits ts vs H, fun e h => by
  obtain ⟨l, vs, h1, h2, h3⟩ := h
  exact ⟨l, vs, h1, e.get h2, h3.mono e⟩⟩
variable {tg : TA} {ts : List VT} {t : VT}
theorem jd_tupV (h : Ja Γ tg ts) (hl : ts.length ≤ 1000) : Jd Γ (tTup tg) (tupV ts) := fun σ H ty Q k => h σ H ty _ fun vs H1 e1 p1 => by
  refine ⟨by rw [p1.length]; exact Nat.le_of_lt (small1000 hl), fun l hn => ?_⟩
  have e2 := same_upd (o := HO.tup vs) hn
  exact k _ _ (e1.trans e2) ⟨l, vs, rfl, upd_same, p1.mono e2⟩
theorem jd_ixTV {i : Int} (h1 : Jd Γ ta (tupV ts)) (h2 : Jd Γ tb (dt (.int i))) (h : atI ts i = some t) : Jd Γ (tOp (rIxA K) ta tb) t :=
  jd_op h1 h2 fun x y H Q p1 p2 k => by
    obtain ⟨a, vs, rfl, h1, q1⟩ := p1
    rw [of_int p2]
    obtain ⟨j, e1, e2⟩ := ix_of h
    obtain ⟨v, e3, p3⟩ := q1.get e2
    exact .inr ⟨a, vs, i, v, rfl, rfl, SqT.of h1, ix_to (by rw [q1.length]; exact e1) e3, k v H (Same.refl H) p3⟩
theorem jd_lenTV (h : Jd Γ te (tupV ts)) : Jd Γ (tCB (rLenQ K) (tCons te tNil)) (dt (.int ts.length)) := jd_cb (ja_cons h ja_nil) fun vs H Q p k => by
  obtain ⟨v, rfl, pv⟩ := fits1 p
  obtain ⟨a, xs, rfl, h1, q1⟩ := pv
  refine ⟨a, xs, rfl, .inr (SqT.of h1), k _ H (Same.refl H) ?_⟩
  rw [q1.length]
  exact dt_int _
theorem jd_isTV (h : Jd Γ ta (tupV ts)) (h2 : Jd Γ tb (tyT "tuple")) : Jd Γ (tCB (rIsi K) (tCons ta (tCons tb tNil))) (dt (.bool true)) := jd_cb (ja_cons h (ja_cons h2 ja_nil)) fun vs H Q p k => by
  obtain ⟨v, c, rfl, pv, e⟩ := fits2 p
  obtain ⟨r, us, rfl, q2, q3⟩ := pv
  have e : c = .ty "tuple" := e
  subst e
  exact ⟨.ref r, .ty "tuple", .type "tuple", .type "tuple", true, rfl, .ty "tuple", .base (.tup q2), kit_ty (by decide +kernel), k _ H (Same.refl H) (dt_bl _)⟩
end
/-- setting by a pattern -/
theorem jm_asgG {Γ : Mm} {te : TE} {R : VT} {α : Type} {g : TG} {Y : α → PyData} {bd : α → Mm → Mm} {a : α} (hg : Tm g Y bd) (h : Jd (vtG Γ) te (dt (Y a))) (n : noL (Y a) = true) : Jm Γ (tAsg te g) (bd a Γ) True R := fun H0 σ H ty D k r =>
  h σ H ty.ty _ fun v H1 e p => hg H0 Γ a v σ H1 _ (ty.mono e) p n fun σ' f t => k trivial σ' H1 ((Fra.same e).trans f) t
end Ost
set_option Elab.async false
set_option linter.all false
set_option maxRecDepth 100000
set_option maxHeartbeats 1000000
/-! D14: a chain's longest, the walk round, the judge of ends. -/
namespace Ost
open PySem PySem.Spec PyProof.Rows L2
open C8 (Cal pe_c Mak pe_mk Met pe_gc)
open PySem.W (AllAlike Sortable dataLe alike alikeAll)

theorem ranks_open {a b : Ch} {st p : List Int} (v : V) (H : Hp) (h : (ranksT a b st p).P v H) : ∃ fm : { fm // RkOk a b st p fm }, (dicT (rkDict fm.1)).P v H := by
  obtain ⟨fm, h1, h2⟩ := h
  exact ⟨⟨fm, h1⟩, h2⟩
theorem rkOf_rank {a b : Ch} {st p : List Int} {fm : RkL} (F : RkOk a b st p fm) : rkOf fm p = rankO a b st p := by
  cases h : rkOf fm p with
  | some k => rw [rankO_some F (rkOf_some h)]
  | none => rw [rankO_none F (rkOf_none h)]

/-- d.get(k) of a dict of ranks -/
theorem jd_dget1E {Γ : Gm} {ta tb : TE} {a b : Ch} {st p s : List Int} {d : PyData} (h1 : Jd Γ ta (ranksT a b st p)) (h2 : Jd Γ tb (dt (sD s))) (hd : ∀ fm, RkOk a b st p fm → gotD (lookD (rkDict fm) s) = d) : Jd Γ (tDGet1 ta tb) (dt d) := fun σ H ty Q k =>
  h1 σ H ty _ fun x H1 e1 p1 => by
    obtain ⟨fm, F, l, kvs, rfl, q1, q2⟩ := p1
    have r := hd fm F
    refine ⟨l, rfl, .inr ⟨_, .inl q1⟩, h2 σ H1 (ty.mono e1) _ fun y H2 e2 p2 => ?_⟩
    obtain ⟨a, o, ea, g, q⟩ := dget_at (m := rkDict fm) (s := s) (x := .ref l) (dicT_F ((dicT _).mono e2 ⟨l, kvs, rfl, q1, q2⟩)) p2
    cases ea
    refine ⟨o, g, k _ H2 (e1.trans e2) ?_⟩
    rw [← r]
    cases hl : lookD (rkDict fm) s with
    | none => rw [hl] at q; rw [q]; exact dt_non
    | some d => rw [hl] at q; obtain ⟨v, rfl, t⟩ := q; exact t

abbrev N_longest_chain : List Str := ["near", "far", "standing", "part"]
theorem sc_longest_chain : FnScope N_longest_chain ["near", "far", "standing", "part"] (defScope s_longest_chain) := ⟨rfl, rfl, rfl, by decide +kernel, rfl, by decide +kernel, by decide +kernel⟩
noncomputable def sg_longest_chain (C : Cn) : Sg (Ch × Ch × List Int × List Int) := ⟨fun x => Dom4 x.1 x.2.1 x.2.2.1 x.2.2.2, fun x => [cho C x.1, cho C x.2.1, dt (sD x.2.2.1), dt (sD x.2.2.2)], fun x => dt (optD (rankO x.1 x.2.1 x.2.2.1 x.2.2.2))⟩
noncomputable def sp_longest_chain (C : Cn) : Sp := (sg_longest_chain C).sp
theorem ok_longest_chain {P : Program} {w : World} {K : PySem.W.Frag} {mg : Str → Option Value} {base : Heap} {C : Cn} {f : Addr} {fd : FuncData} (F : FunD K "longest_chain" "longest_chain" (defArgs s_longest_chain) (defBody s_longest_chain) (defScope s_longest_chain) [] [] f fd) (m : mg "longest_chain" = some (.ref f)) (T : Top K mg C) (c_press_check : Cal P w K mg base 6 "press_check" (sp_press_check C) []) (c_ring_ranks : Cal P w K mg base 1 "ring_ranks" (sp_ring_ranks C) []) (c_press_graph : Cal P w K mg base 5 "press_graph" (sp_press_graph C) []) :
    Cal P w K mg base 7 "longest_chain" (sp_longest_chain C) [] := by
  refine cal_of F (fn_js (S := sg_longest_chain C) (k := 6) F sc_longest_chain (fun _ => rfl) fun cdv A outer s H E hr => ⟨_, PSs.nox ((pss_cons (ps_expr (pe_c c_press_check hr (by decide) (by rfl) (pa_cons (pv 0) (pa_cons (pv 1) (pa_cons (pv 2) (pa_cons (pv 3) pa_nil))))))
    (pss_one (ps_ret (pe_dget1 (hu_of hr) (pe_c c_ring_ranks hr (by decide) (by rfl) (pa_cons (pe_c c_press_graph hr (by decide) (by rfl) (pa_cons (pv 0) (pa_cons (pv 1) (pa_cons (pv 2) (pa_cons (pv 3) pa_nil))))) pa_nil)) (pv 3) ⟨rfl, rfl, rfl, rfl⟩))))), fun x hd => ?_⟩) m (fun _ _ _ _ _ _ us hl => match us, hl with | [_, _, _, _], _ => rfl)
  obtain ⟨a, b, st, p⟩ := x
  have hd : Dom4 a b st p := hd
  refine ⟨[], False, js_seq (js_drop (jd_call (S := sg_press_check C) (a, b, st, p) hd (ja_cons (jd_var rfl) (ja_cons (jd_var rfl) (ja_cons (jd_var rfl) (ja_cons (jd_var rfl) ja_nil)))))) fun _ =>
    js_ret (jd_dget1E (jd_call (S := sg_ring_ranks C) (a, b, st, p) hd.dom1 (ja_cons (jd_call (S := sg_press_graph C) (a, b, st, p) ⟨hd.two, hd.hst, hd.hpt⟩ (ja_cons (jd_var rfl) (ja_cons (jd_var rfl) (ja_cons (jd_var rfl) (ja_cons (jd_var rfl) ja_nil))))) ja_nil)) (jd_var rfl) fun fm F => ?_), fun z => z.elim⟩
  rw [lookD_rk, rkOf_rank F]
  cases rankO a b st p <;> rfl

abbrev N_does_go_round : List Str := ["near", "far", "standing", "part"]
theorem sc_does_go_round : FnScope N_does_go_round ["near", "far", "standing", "part"] (defScope s_does_go_round) := ⟨rfl, rfl, rfl, by decide +kernel, rfl, by decide +kernel, by decide +kernel⟩
noncomputable def sg_does_go_round (C : Cn) : Sg (Ch × Ch × List Int × List Int) := ⟨fun x => Dom4 x.1 x.2.1 x.2.2.1 x.2.2.2, fun x => [cho C x.1, cho C x.2.1, dt (sD x.2.2.1), dt (sD x.2.2.2)], fun x => dt (.bool (rankO x.1 x.2.1 x.2.2.1 x.2.2.2).isNone)⟩
noncomputable def sp_does_go_round (C : Cn) : Sp := (sg_does_go_round C).sp
theorem ok_does_go_round {P : Program} {w : World} {K : PySem.W.Frag} {mg : Str → Option Value} {base : Heap} {C : Cn} {f : Addr} {fd : FuncData} (F : FunD K "does_go_round" "does_go_round" (defArgs s_does_go_round) (defBody s_does_go_round) (defScope s_does_go_round) [] [] f fd) (m : mg "does_go_round" = some (.ref f)) (T : Top K mg C) (c_longest_chain : Cal P w K mg base 7 "longest_chain" (sp_longest_chain C) []) :
    Cal P w K mg base 8 "does_go_round" (sp_does_go_round C) [] := by
  refine cal_of F (fn_js (S := sg_does_go_round C) (k := 7) F sc_does_go_round (fun _ => rfl) fun cdv A outer s H E hr => ⟨_, PSs.nox ((pss_one (ps_ret (pe_cmpR op_isN0 (pe_c c_longest_chain hr (by decide) (by rfl) (pa_cons (pv 0) (pa_cons (pv 1) (pa_cons (pv 2) (pa_cons (pv 3) pa_nil))))) pe_non (nomark _))))), fun x hd => ?_⟩) m (fun _ _ _ _ _ _ us hl => match us, hl with | [_, _, _, _], _ => rfl)
  have hd2 : Dom4 x.1 x.2.1 x.2.2.1 x.2.2.2 := hd
  refine ⟨[], False, js_ret ((jd_isN (jd_call (S := sg_longest_chain C) x hd2 (ja_cons (jd_var rfl) (ja_cons (jd_var rfl) (ja_cons (jd_var rfl) (ja_cons (jd_var rfl) ja_nil)))))).eq ?_), fun z => z.elim⟩
  cases rankO x.1 x.2.1 x.2.2.1 x.2.2.2 <;> rfl

/-! ### round a ring -/
structure IsRing (a b : Ch) (st p : List Int) (z : List Int × List Int × List Int) : Prop where
  pre : endOf a b st p z.1 = some z.2.2
  ne : z.2.1 ≠ []
  cyc : endOf a b st z.2.2 z.2.1 = some z.2.2
def ringD (z : List Int × List Int × List Int) : PyData := .tuple [.str "ring", sD z.1, sD z.2.1]
def ringT (a b : Ch) (st p : List Int) : VT := ⟨fun v H => ∃ z, IsRing a b st p z ∧ (dt (ringD z)).P v H, fun e h => by
  obtain ⟨z, h1, h2⟩ := h
  exact ⟨z, h1, (dt _).mono e h2⟩⟩
structure WalkI (a b : Ch) (st p : List Int) (fm : RkL) (ws : List (List Int)) (os h : List Int) : Prop where
  nd : ws.Nodup
  rc : ∀ s ∈ ws, Reach a b st p s
  at_ : ∀ i s, ws[i]? = some s → endOf a b st p (os.take i) = some s
  len : os.length = ws.length
  en : endOf a b st p os = some h
  un : ∀ k, (h, k) ∉ fm
theorem WalkI.ring {a b : Ch} {st p : List Int} {fm : RkL} {ws : List (List Int)} {os h : List Int} (I : WalkI a b st p fm ws os h) {j : Nat} (hj : ws[j]? = some h) : IsRing a b st p (os.take j, os.drop j, h) := by
  have e1 := I.at_ j h hj
  have lt := (List.getElem?_eq_some_iff.mp hj).1
  refine ⟨e1, fun e => ?_, ?_⟩
  · have := congrArg List.length e
    rw [List.length_drop, I.len] at this
    simp only [List.length_nil] at this
    omega
  · have := I.en
    rw [← List.take_append_drop j os, endOf_app, e1] at this
    exact this
theorem WalkI.step {a b : Ch} {st p : List Int} {fm : RkL} {ws : List (List Int)} {os h : List Int} (I : WalkI a b st p fm ws os h) (hn : h ∉ ws) {y : Int × List Int} (hy : y ∈ movesOf a b st h) (hu : ∀ k, (y.2, k) ∉ fm) : WalkI a b st p fm (ws ++ [h]) (os ++ [y.1]) y.2 := by
  obtain ⟨m1, m2⟩ := moves_at.mp hy
  refine ⟨?_, fun s hs => ?_, fun i s hi => ?_, ?_, ?_, hu⟩
  · refine List.nodup_append.mpr ⟨I.nd, by simp, fun s hs u hu e => ?_⟩
    rw [List.mem_singleton.mp hu] at e
    exact hn (e ▸ hs)
  · rcases List.mem_append.mp hs with z | z
    · exact I.rc s z
    · rw [List.mem_singleton.mp z]
      exact endOf_reach I.en
  · rcases Nat.lt_or_ge i ws.length with l | l
    · rw [List.getElem?_append_left l] at hi
      rw [List.take_append_of_le_length (by rw [I.len]; omega)]
      exact I.at_ i s hi
    · rw [List.getElem?_append_right l] at hi
      have : i = ws.length := by
        have := (List.getElem?_eq_some_iff.mp hi).1
        simp only [List.length_cons, List.length_nil] at this
        omega
      subst this
      rw [Nat.sub_self] at hi
      cases hi
      rw [← I.len, List.take_left]
      exact I.en
  · rw [List.length_append, List.length_append, I.len]
    rfl
  · rw [endOf_app, I.en]
    show endOf a b st h [y.1] = some y.2
    rw [endOf_cons, if_pos (by simpa using m1), ← m2]
    rfl
theorem any_sets (L : List (List Int)) (h : List Int) : ((L.map sD).any fun z => PyData.eqv z (sD h)) = decide (h ∈ L) := by
  induction L with
  | nil => simp
  | cons s L ih =>
    rw [List.map_cons, List.any_cons, ih, eqv_sD]
    by_cases e : s = h
    · subst e; simp
    · rw [decide_eq_false e, Bool.false_or]
      simp [Ne.symm e]
/-- the first place of a thing -/
theorem first_at {α : Type} [DecidableEq α] : ∀ {L : List α} {h : α}, h ∈ L → ∃ j : Nat, L[j]? = some h ∧ ∀ m, m < j → L[m]? ≠ some h
  | x :: L, h, m => by
    by_cases e : x = h
    · exact ⟨0, by rw [e]; rfl, fun m l => by omega⟩
    · obtain ⟨j, h1, h2⟩ := first_at ((List.mem_cons.mp m).resolve_left fun z => e z.symm)
      refine ⟨j + 1, h1, fun m l => ?_⟩
      cases m with
      | zero => intro z; exact e (Option.some.inj z)
      | succ m => exact h2 m (by omega)

abbrev N_ring_walk : List Str := ["graph", "ranks", "part", "walk", "offers", "here", "offer", "one", "behind", "begun"]
theorem sc_ring_walk : FnScope N_ring_walk ["graph", "ranks", "part"] (defScope s_ring_walk) := ⟨rfl, rfl, rfl, by decide +kernel, rfl, by decide +kernel, by decide +kernel⟩
noncomputable def sg_ring_walk (C : Cn) : Sg (Ch × Ch × List Int × List Int) := ⟨fun x => Dom1 x.1 x.2.1 x.2.2.1 x.2.2.2 ∧ rankO x.1 x.2.1 x.2.2.1 x.2.2.2 = none, fun x => [graphT C x.1 x.2.1 x.2.2.1 x.2.2.2, ranksT x.1 x.2.1 x.2.2.1 x.2.2.2, dt (sD x.2.2.2)], fun x => ringT x.1 x.2.1 x.2.2.1 x.2.2.2⟩
noncomputable def sp_ring_walk (C : Cn) : Sp := (sg_ring_walk C).sp
theorem ok_ring_walk {P : Program} {w : World} {K : PySem.W.Frag} {mg : Str → Option Value} {base : Heap} {C : Cn} {f : Addr} {fd : FuncData} (F : FunD K "ring_walk" "ring_walk" (defArgs s_ring_walk) (defBody s_ring_walk) (defScope s_ring_walk) [] [] f fd) (m : mg "ring_walk" = some (.ref f)) (T : Top K mg C) :
    Cal P w K mg base 1 "ring_walk" (sp_ring_walk C) [] := by
  refine cal_of F (fn_jm (S := sg_ring_walk C) (k := 0) F sc_ring_walk (fun _ => rfl) fun cdv A outer s H E hr => ⟨_, PSs.nox ((pss_cons (ps_par3 (i := 3) (j := 4) (l := 5) (by rfl) sc_ring_walk.nd rfl rfl rfl (by decide) (by decide) (by decide) rfl rfl rfl (pa_cons (pe_lst pa_nil) (pa_cons (pe_lst pa_nil) (pa_cons (pv 2) pa_nil))) (by rfl))
    (pss_cons (ps_while PassesOwn.never (pt_cmpR (o_notIn (K := K) (w := w) rfl rfl (hu65 hr)) (pv 5) (pv 3) (by rfl)) (pss_cons (ps_expr (pe_bm PySem.F.plainAttrs_list PySem.F.slot_list_append PySem.F.type_list_append mt_append (pv 3) (pa_cons (pv 5) pa_nil)))
    (pss_cons (ps_asg (pe_ix (x_ix (K := K) rfl) (pe_lc (own := [("one", 7), ("behind", 8)]) rfl sc_ring_walk.nd (i_seq (K := K) rfl (pe_dget (hu_of hr) (pv 0) (pv 5) (fun _ _ => rfl))) (blkOk_by (own := [("one", 7), ("behind", 8)]) (N := N_ring_walk) (sc := defScope s_ring_walk) (by decide +kernel)) (fun _ _ _ _ _ => (g_tup (K := K) (n := 2) rfl (by rfl) (pgs_cons (pg_name (i := 7) sc_ring_walk.nd rfl (Or.inl rfl)) (pgs_cons (pg_name (i := 8) sc_ring_walk.nd rfl (Or.inl rfl)) pgs_nil)))) (fun _ _ _ _ _ => pts_one (pt_cmp (pc_dnotin (hu_of hr) (pv 8) (pv 1)))) (fun _ _ _ _ _ => (pe_tup (pa_cons (pv 7) (pa_cons (pv 8) pa_nil))))) pe_int (fun _ _ => rfl)) (g_tup (K := K) (n := 2) rfl (by rfl) (pgs_cons (pg_name (i := 6) sc_ring_walk.nd rfl (Or.inl rfl)) (pgs_cons (pg_name (i := 5) sc_ring_walk.nd rfl (Or.inl rfl)) pgs_nil))))
    (pss_one (ps_expr (pe_bm PySem.F.plainAttrs_list PySem.F.slot_list_append PySem.F.type_list_append mt_append (pv 4) (pa_cons (pv 6) pa_nil)))))))
    (pss_cons (ps_set (i := 9) sc_ring_walk.nd rfl (Or.inl rfl) (pe_bm PySem.F.plainAttrs_list PySem.F.slot_list_index PySem.F.type_list_index (m_index (K := K) rfl (hu65 hr)) (pv 3) (pa_cons (pv 5) pa_nil)))
    (pss_one (ps_ret (pe_tup (pa_cons pe_str (pa_cons (pe_callTy (c_tup (K := K) rfl) (by rfl) T.tuple_ boot_tuple (pa_cons (pe_slice (s_lst (K := K) rfl) (pv 4) po_none (po_some (pv 9))) pa_nil)) (pa_cons (pe_callTy (c_tup (K := K) rfl) (by rfl) T.tuple_ boot_tuple (pa_cons (pe_slice (s_lst (K := K) rfl) (pv 4) (po_some (pv 9)) po_none) pa_nil)) pa_nil)))))))))), fun x hd => ?_⟩) m (fun _ _ _ _ _ _ us hl => match us, hl with | [_, _, _], _ => rfl)
  obtain ⟨a, b, st, p⟩ := x
  have hd : Dom1 a b st p ∧ rankO a b st p = none := hd
  obtain ⟨hd, hno⟩ := hd
  have h6 := hd.two.few
  refine ⟨[none, none, none, none, none, none, none, none, none, none], False, jm_open (i := 0) rfl (T' := fun ks : { ks // IsGraph a b st p ks } => dicT (gm a b st ks.1)) (fun v H h => by obtain ⟨ks, h1, h2, h3⟩ := h; exact ⟨⟨ks, h1⟩, h2⟩) fun ks => jm_open (i := 1) rfl (T' := fun fm : { fm // RkOk a b st p fm } => dicT (rkDict fm.1)) ranks_open fun fm => ?_, fun z => z.elim⟩
  obtain ⟨ks, g⟩ := ks
  obtain ⟨fm, F⟩ := fm
  have pu : ∀ k, (p, k) ∉ fm := fun k hk => by rw [rankO_some F hk] at hno; cases hno
  have few : ∀ {ws : List (List Int)} {os h : List Int}, WalkI a b st p fm ws os h → ws.length ≤ 64 := fun I => sets_few hd.two.few I.nd fun s hs => reach_set hd.two hd.hst hd.hpt (I.rc s hs)
  let G_ : List (List Int) × List Int × List Int → Mm := fun x => [some (.arg (dicT (gm a b st ks))), some (.arg (dicT (rkDict fm))), some (.arg (dt (sD p))), some (.own (x.1.map sD)), some (.own (x.2.1.map .int)), some (.dat (sD x.2.2)), none, none, none, none]
  refine jm_seq (jm_par3 (i := 3) (j := 4) (l := 5) (t1 := .own []) (t2 := .own []) (t3 := .dat (sD p)) (mv_own (jf_lst ja_nil (by simp)) rfl) (mv_own (jf_lst ja_nil (by simp)) rfl) (mv_dat (jd_var rfl) (noL_sD _))) fun _ => jm_whileR (Γs := G_) (P := fun x => WalkI a b st p fm x.1 x.2.1 x.2.2) (μ := fun x => 65 - x.1.length) ([], [], p) ⟨List.nodup_nil, fun s h => (by cases h), fun i s h => (by simp at h), rfl, rfl, pu⟩ fun x I => ?_
  obtain ⟨ws, os, h⟩ := x
  have I : WalkI a b st p fm ws os h := I
  have lw := few I
  have lo := I.len
  have rh := endOf_reach I.en
  have hs := reach_set hd.two hd.hst hd.hpt rh
  refine ⟨!decide (h ∈ ws), Jt.eq (jt_test (jd_notInL (jd_var (i := 5) rfl) (jd_var (i := 3) (T := dt (.list (ws.map sD))) rfl) (sh_sD1 h) (sh_setsL ws))) (by rw [any_sets]), fun hc => ?_, fun hc => ?_⟩
  · have hn : h ∉ ws := by simpa using hc
    obtain ⟨y0, hy0, hu0⟩ := F.up rh I.un
    let fl := (movesOf a b st h).filter fun y => !(rkOf fm y.2).isSome
    have hmem : y0 ∈ fl := List.mem_filter.mpr ⟨hy0, by
      cases hk : rkOf fm y0.2 with
      | none => rfl
      | some k => exact absurd (rkOf_some hk) (hu0 k)⟩
    obtain ⟨y, rest, hfl⟩ : ∃ y rest, fl = y :: rest := by
      cases e : fl with
      | nil => rw [e] at hmem; cases hmem
      | cons y rest => exact ⟨y, rest, rfl⟩
    have hy := List.mem_filter.mp (show y ∈ fl by rw [hfl]; exact List.mem_cons_self ..)
    have hu : ∀ k, (y.2, k) ∉ fm := rkOf_none (by
      have := hy.2
      cases hk : rkOf fm y.2 with
      | none => rfl
      | some k => simp only [hk, Option.isSome_some, Bool.not_true] at this; cases this)
    have I2 := I.step hn hy.1 hu
    have ml : (movesOf a b st h).length ≤ 6 := by
      unfold movesOf
      rw [List.length_map]
      exact len6 (isSet_wished hd.hst) h6
    have fz : ∀ {Γ : Gm}, Γ[1]? = some (some (dicT (rkDict fm))) → Jd Γ (tVar 1) (dicF (rkDict fm)) := fun {Γ} e => Jd.imp (jd_var e) fun v H h => dicT_F h
    have gz : ∀ {Γ : Gm}, Γ[0]? = some (some (dicT (gm a b st ks))) → Jd Γ (tVar 0) (dicF (gm a b st ks)) := fun {Γ} e => Jd.imp (jd_var e) fun v H h => dicT_F h
    have lg : lookD (gm a b st ks) h = some (.list ((movesOf a b st h).map movD)) := by rw [lookD_gm, if_pos ((g.mem h).mpr rh)]
    have sm : ∀ {o : Option Int}, (o.map PyData.int).isSome = o.isSome := fun {o} => by cases o <;> rfl
    refine ⟨(ws ++ [h], os ++ [y.1], y.2), True, fun _ => ⟨I2, ?_⟩, ?_⟩
    · show 65 - (ws ++ [h]).length < 65 - ws.length
      rw [List.length_append, List.length_singleton]
      omega
    · refine jm_seq (jm_append (ds := ws.map sD) (d := sD h) (i := 3) rfl (jd_var (i := 5) rfl) (noL_sD _) (by rw [List.length_map]; omega)) fun _ => jm_seq (jm_asgG (a := y) (tm_pair (A := fun x : Int × List Int => .int x.1) (B := fun x => sD x.2) 6 5) (jd_ixL (ds := fl.map movD) (d := movD y) (i := 0) (jd_of_jf (jf_lc (xs := movesOf a b st h) (Y := fun x => dt (movD x)) (bind := fun x Γ => (Γ.set 7 (some (dt (.int x.1)))).set 8 (some (dt (sD x.2)))) (p := fun y => !(rkOf fm y.2).isSome) (q := fun y => movD y) (ji_lst (D := movD) (jd_dget (gz rfl) (jd_var (i := 5) rfl) lg)) (tg_pair (A := fun x : Int × List Int => .int x.1) (B := fun x => sD x.2) 7 8) (fun x hx => jt_B ((jd_dnotin (jd_var (i := 8) rfl) (fz rfl)).eq (by rw [lookD_rk, sm]))) (fun x hx _ => jd_tup (ds := [.int x.1, sD x.2]) (ja_cons (jd_var (i := 7) rfl) (ja_cons (jd_var (i := 8) rfl) ja_nil)) (by simp)) (by omega) (fun x _ _ => noL_movD x))) jd_int (by rw [hfl]; exact atI_zero)) (noL_movD _)) fun _ => Jm.imp (jm_append (ds := os.map .int) (d := .int y.1) (i := 4) rfl (jd_var (i := 6) rfl) (noL_int _) (by rw [List.length_map]; omega)) (fun _ => trivial) ?_
      refine ⟨rfl, rfl, rfl, ?_, ?_, rfl, trivial⟩
      · rw [List.map_append]; rfl
      · rw [List.map_append]; rfl
  · have hin : h ∈ ws := by simpa using hc
    obtain ⟨j, h1, h2⟩ := first_at hin
    have R := I.ring h1
    have rl : os.length ≤ 64 := by omega
    refine jm_seq (jm_asg (i := 9) (d := .int (j : Nat)) (jd_index (z := sD h) (ds := ws.map sD) (d := sD h) (jd_var (i := 3) (T := dt (.list (ws.map sD))) rfl) (jd_var (i := 5) rfl) (sh_setsL ws) (sh_sD1 h) (by rw [List.getElem?_map, h1]; rfl) (by rw [eqv_sD]; simp) fun m z' hm hz => ?_) (noL_int _)) fun _ => jm_ret (Jd.imp (jd_tup (ds := [.str "ring", sD (os.take j), sD (os.drop j)]) (ja_cons jd_str (ja_cons ((jd_tupOf (jd_of_jf (jf_slTo (ds := os.map .int) (jd_var (i := 4) rfl) (jd_var (i := 9) rfl)))).eq (by rw [← List.map_take])) (ja_cons ((jd_tupOf (jd_of_jf (jf_slFrom (ds := os.map .int) (jd_var (i := 4) rfl) (jd_var (i := 9) rfl)))).eq (by rw [← List.map_drop])) ja_nil))) (by simp)) fun v H p => ⟨_, R, p⟩)
    rw [List.getElem?_map] at hz
    obtain ⟨s, hs1, rfl⟩ := Option.map_eq_some_iff.mp hz
    rw [eqv_sD, decide_eq_false]
    rintro rfl
    exact h2 m hm hs1
end Ost
set_option Elab.async false
set_option linter.all false
set_option maxRecDepth 100000
set_option maxHeartbeats 1000000
/-! D15: the judge of ends, and what holds of its papers. -/
namespace Ost
open PySem PySem.Spec PyProof.Rows L2
open C8 (Cal pe_c Mak pe_mk Met pe_gc)
open PySem.W (AllAlike Sortable dataLe alike alikeAll)

theorem lk_rowsZ (fm : RkL) : LkS (rowsZ fm) := fun v H d kvs od h => by
  constructor
  · rintro ⟨r, o, us, rfl, h1, h2, h3⟩
    refine ⟨r, o, us, rfl, ?_, h2, TpAll.tl (tls_lock h) _ _ h3⟩
    rw [upd_ne (fun e => by rw [e, h] at h1; cases h1)]
    exact h1
  · rintro ⟨r, o, us, rfl, h1, h2, h3⟩
    have ne : r ≠ d := fun e => by
      rw [e, upd_same] at h1
      injection h1 with h1
      injection h1 with _ h1
      cases h1
    rw [upd_ne ne] at h1
    exact ⟨r, o, us, rfl, h1, h2, TpAll.tl (tls_un h) _ _ h3⟩

def LkAll : Gm → Prop
  | [] => True
  | none :: Γ => LkAll Γ
  | some t :: Γ => LkS t ∧ LkAll Γ
theorem LkAll.get : ∀ {Γ : Gm} {k : Nat} {t : VT}, LkAll Γ → Γ[k]? = some (some t) → LkS t
  | [], k, t, h, q => by simp at q
  | none :: Γ, 0, t, h, q => by cases q
  | none :: Γ, k + 1, t, h, q => LkAll.get (Γ := Γ) h q
  | some u :: Γ, 0, t, h, q => by cases q; exact h.1
  | some u :: Γ, k + 1, t, h, q => LkAll.get (Γ := Γ) h.2 q
theorem lk_of {Γ : Gm} {i : Nat} (h : LkAll (Γ.set i none)) (k : Nat) (t : VT) (hk : k ≠ i) (q : Γ[k]? = some (some t)) : LkS t := h.get (k := k) (by rw [List.getElem?_set_ne (Ne.symm hk)]; exact q)
/-! ### papers -/
def rankRows (fm : RkL) (ks : List (List Int)) : RkL := ks.map fun s => (s, (rkOf fm s).getD 0)
theorem RkOk.rows {a b : Ch} {st p : List Int} {fm : RkL} {ks : List (List Int)} {k : Int} (F : RkOk a b st p fm) (hp : (p, k) ∈ fm) (g : IsGraph a b st p ks) : RkOk a b st p (rankRows fm ks) ∧ ((rankRows fm ks).map (·.1)).Nodup ∧ (p, k) ∈ rankRows fm ks := by
  have nd : ((rankRows fm ks).map (·.1)).Nodup := by
    unfold rankRows
    rw [List.map_map]
    have : ((fun x : List Int × Int => x.1) ∘ fun s => (s, (rkOf fm s).getD 0)) = id := rfl
    rw [this, List.map_id]
    exact g.nd
  have mem : ∀ x, x ∈ rankRows fm ks ↔ x ∈ fm := fun x => by
    unfold rankRows
    constructor
    · intro h
      obtain ⟨s, hs, rfl⟩ := List.mem_map.mp h
      obtain ⟨l, hl⟩ := F.down hp ((g.mem s).mp hs)
      rw [rkOf_mem F.nd hl]
      exact hl
    · intro h
      refine List.mem_map.mpr ⟨x.1, (g.mem _).mpr (F.rk x h), ?_⟩
      rw [rkOf_mem F.nd (show (x.1, x.2) ∈ fm from h)]
      rfl
  exact ⟨F.congr nd mem, nd, (mem _).mpr hp⟩
structure IsPaper (a b : Ch) (st p : List Int) (fm : RkL) : Prop extends RkOk a b st p fm where
  pr : ∃ k, (p, k) ∈ fm
  so : fm.Pairwise fun x y => HT.lexLt x.1 y.1 = true
theorem RkOk.paper {a b : Ch} {st p : List Int} {fm : RkL} {ks : List (List Int)} {k : Int} (F : RkOk a b st p fm) (hp : (p, k) ∈ fm) (g : IsGraph a b st p ks) : IsPaper a b st p (srtRk (rankRows fm ks)) := by
  obtain ⟨h1, h2, h3⟩ := F.rows hp g
  exact ⟨h1.congr (srtRk_nodup h2) fun x => srtRk_mem, ⟨k, srtRk_mem.mpr h3⟩, srtRk_lt h2⟩
def paperR (fm : RkL) : VT := tupV [dt (.str "ranks"), rowsZ fm]
def paperT (a b : Ch) (st p : List Int) : VT := ⟨fun v H => (∃ fm, IsPaper a b st p fm ∧ (paperR fm).P v H) ∨ (rankO a b st p = none ∧ ∃ z, IsRing a b st p z ∧ (dt (ringD z)).P v H), fun e h => by
  rcases h with ⟨fm, h1, h2⟩ | ⟨h1, z, h2, h3⟩
  · exact .inl ⟨fm, h1, (paperR fm).mono e h2⟩
  · exact .inr ⟨h1, z, h2, (dt _).mono e h3⟩⟩
theorem depth_rkD (x : List Int × Int) : (rkD x).depth ≤ 60 := (sh_tup (k := 1) fun d hd => by
  simp only [List.mem_cons, List.not_mem_nil, or_false] at hd
  rcases hd with rfl | rfl
  · exact sh_sD _
  · exact sh_int _).up (by decide : 2 ≤ 60) |>.2
theorem sh_rkD (x : List Int × Int) : Sh 2 (rkD x) := sh_tup (k := 1) fun d hd => by
  simp only [List.mem_cons, List.not_mem_nil, or_false] at hd
  rcases hd with rfl | rfl
  · exact sh_sD _
  · exact sh_int _
theorem alike_rkD (fm : RkL) : AllAlike (fm.map rkD) := AllAlike.of fun x y => by
  unfold rkD
  simp only [alike, alikeAll, Bool.and_true]
  exact alike_ints _ _

abbrev N_judge_ends : List Str := ["near", "far", "standing", "part", "graph", "ranks", "here"]
theorem sc_judge_ends : FnScope N_judge_ends ["near", "far", "standing", "part"] (defScope s_judge_ends) := ⟨rfl, rfl, rfl, by decide +kernel, rfl, by decide +kernel, by decide +kernel⟩
noncomputable def sg_judge_ends (C : Cn) : Sg (Ch × Ch × List Int × List Int) := ⟨fun x => Dom4 x.1 x.2.1 x.2.2.1 x.2.2.2, fun x => [cho C x.1, cho C x.2.1, dt (sD x.2.2.1), dt (sD x.2.2.2)], fun x => paperT x.1 x.2.1 x.2.2.1 x.2.2.2⟩
noncomputable def sp_judge_ends (C : Cn) : Sp := (sg_judge_ends C).sp
theorem ok_judge_ends {P : Program} {w : World} {K : PySem.W.Frag} {mg : Str → Option Value} {base : Heap} {C : Cn} {f : Addr} {fd : FuncData} (F : FunD K "judge_ends" "judge_ends" (defArgs s_judge_ends) (defBody s_judge_ends) (defScope s_judge_ends) [] [] f fd) (m : mg "judge_ends" = some (.ref f)) (T : Top K mg C) (c_press_check : Cal P w K mg base 6 "press_check" (sp_press_check C) []) (c_press_graph : Cal P w K mg base 5 "press_graph" (sp_press_graph C) []) (c_ring_ranks : Cal P w K mg base 1 "ring_ranks" (sp_ring_ranks C) []) (c_ring_walk : Cal P w K mg base 1 "ring_walk" (sp_ring_walk C) []) :
    Cal P w K mg base 7 "judge_ends" (sp_judge_ends C) [] := by
  refine cal_of F (fn_js (S := sg_judge_ends C) (k := 6) F sc_judge_ends (fun _ => rfl) fun cdv A outer s H E hr => ⟨_, PSs.nox ((pss_cons (ps_expr (pe_c c_press_check hr (by decide) (by rfl) (pa_cons (pv 0) (pa_cons (pv 1) (pa_cons (pv 2) (pa_cons (pv 3) pa_nil))))))
    (pss_cons (ps_set (i := 4) sc_judge_ends.nd rfl (Or.inl rfl) (pe_c c_press_graph hr (by decide) (by rfl) (pa_cons (pv 0) (pa_cons (pv 1) (pa_cons (pv 2) (pa_cons (pv 3) pa_nil))))))
    (pss_cons (ps_set (i := 5) sc_judge_ends.nd rfl (Or.inr rfl) (pe_c c_ring_ranks hr (by decide) (by rfl) (pa_cons (pv 4) pa_nil)))
    (pss_cons (ps_if (pt_cmp (pc_din (hu_of hr) (pv 3) (pv 5))) (pss_one (ps_ret (pe_tup (pa_cons pe_str (pa_cons (pe_callTy (call_tupZ (K := K) rfl) (by rfl) T.tuple_ boot_tuple (pa_cons (pe_callB (c_sorted (w := w) rfl rfl (hu65 hr)) (by rfl) T.sorted_ boot_sorted (pa_cons (pe_lock (pe_lc (own := [("here", 6)]) rfl sc_judge_ends.nd (pi_keys (pv 4)) (blkOk_by (own := [("here", 6)]) (N := N_judge_ends) (sc := defScope s_judge_ends) (by decide +kernel)) (fun _ _ _ _ _ => (pg_name (i := 6) sc_judge_ends.nd rfl (Or.inl rfl))) (fun _ _ _ _ _ => pts_nil) (fun _ _ _ _ _ => (pe_tup (pa_cons (pv 6) (pa_cons (pe_dget (hu_of hr) (pv 5) (pv 6) (fun _ _ => rfl)) pa_nil)))))) pa_nil)) pa_nil)) pa_nil))))) pss_nil)
    (pss_one (ps_ret (pe_c c_ring_walk hr (by decide) (by rfl) (pa_cons (pv 4) (pa_cons (pv 5) (pa_cons (pv 3) pa_nil))))))))))), fun x hd => ?_⟩) m (fun _ _ _ _ _ _ us hl => match us, hl with | [_, _, _, _], _ => rfl)
  obtain ⟨a, b, st, p⟩ := x
  have hd : Dom4 a b st p := hd
  let A4 : Gm := [some (cho C a), some (cho C b), some (dt (sD st)), some (dt (sD p))]
  refine ⟨[none, none, none, none, none, none, none], False, js_seq (js_drop (jd_call (S := sg_press_check C) (a, b, st, p) hd (ja_cons (jd_var rfl) (ja_cons (jd_var rfl) (ja_cons (jd_var rfl) (ja_cons (jd_var rfl) ja_nil)))))) fun _ =>
    js_seq (js_asg (i := 4) (jd_call (S := sg_press_graph C) (a, b, st, p) ⟨hd.two, hd.hst, hd.hpt⟩ (ja_cons (jd_var rfl) (ja_cons (jd_var rfl) (ja_cons (jd_var rfl) (ja_cons (jd_var rfl) ja_nil)))))) fun _ =>
    js_seq (js_asg (i := 5) (jd_call (S := sg_ring_ranks C) (a, b, st, p) hd.dom1 (ja_cons (jd_var (i := 4) rfl) ja_nil))) fun _ => js_open (i := 5) rfl (T' := fun fm : { fm // RkOk a b st p fm } => dicT (rkDict fm.1)) ranks_open fun fm => ?_, fun z => z.elim⟩
  obtain ⟨fm, F⟩ := fm
  have sm : ∀ {o : Option Int}, (o.map PyData.int).isSome = o.isSome := fun {o} => by cases o <;> rfl
  have dz : ∀ {Γ : Gm}, Γ[5]? = some (some (dicT (rkDict fm))) → Jd Γ (tVar 5) (dicF (rkDict fm)) := fun {Γ} e => Jd.imp (jd_var e) fun v H h => dicT_F h
  refine js_seq (js_if (C := rankO a b st p = none) (Γ' := A4 ++ [some (graphT C a b st p), some (dicT (rkDict fm)), none]) (jt_B ((jd_din (jd_var (i := 3) rfl) (dz rfl)).eq (d' := .bool (rankO a b st p).isSome) (by rw [lookD_rk, sm, rkOf_rank F]))) (fun h => ?_) (fun h => js_next (by simpa using h))) fun hno => ?_
  · obtain ⟨k, hk⟩ := Option.isSome_iff_exists.mp h
    have hp : (p, k) ∈ fm := rkOf_some (by rw [rkOf_rank F]; exact hk)
    refine js_open (i := 4) rfl (T' := fun ks : { ks // IsGraph a b st p ks } => dicT (gm a b st ks.1)) (fun v H h => by obtain ⟨ks, h1, h2, h3⟩ := h; exact ⟨⟨ks, h1⟩, h2⟩) fun ks => ?_
    obtain ⟨ks, g⟩ := ks
    have few := g.few hd.two hd.hst hd.hpt
    refine js_open (i := 5) (T' := fun _ : Unit => dicF (rkDict fm)) rfl (fun v H h => ⟨(), dicT_F h⟩) fun _ => js_ret (Jd.imp (jd_tupV (ts := [dt (.str "ranks"), rowsZ (srtRk (rankRows fm ks))]) (ja_cons jd_str (ja_cons (jd_tupZ (jf_sortD (ds := (rankRows fm ks).map rkD) (jd_of_jf (jf_lock (i := 4) (m := gm a b st ks) rfl (fun k t hk q => ?_) (fun d => ?_) ?_)) (alike_rkD _) (Sortable.tuples fun x => ⟨_, _, rfl⟩) ?_) (srtRk_map _)) ja_nil)) (by simp)) fun v H h => .inl ⟨_, F.paper hp g, h⟩)
    · match k, hk, q with
      | 0, _, q => cases q; exact lk_cho _ _
      | 1, _, q => cases q; exact lk_cho _ _
      | 2, _, q => cases q; exact lk_dt _
      | 3, _, q => cases q; exact lk_dt _
      | 4, hk, _ => exact absurd rfl hk
      | 5, _, q => cases q; exact lk_dicF _
      | 6, _, q => cases q
      | k + 7, _, q => exact absurd (List.getElem?_eq_some_iff.mp q).1 (by show ¬ k + 7 < 7; omega)
    · have kk := gm_keys a b st ks
      have := jf_lc (Γ := A4 ++ [some (dicZ d (gm a b st ks)), some (dicF (rkDict fm)), none]) (wi := iKeys (tVar 4)) (xs := (gm a b st ks).map (·.1)) (bind := fun s Γ => Γ.set 6 (some (dt (sD s)))) (p := fun _ => true) (q := fun s => rkD (s, (rkOf fm s).getD 0)) (tt := tYes) (te := tTup (tCons (tVar 6) (tCons (tDGet (tVar 5) (tVar 6)) tNil))) (ji_keys (i := 4) rfl) (tg_name 6) (fun s hs => jt_yes) (fun s hs _ => ?_) (by rw [kk]; omega) (fun s _ _ => noL_rkD _)
      · rw [kk, List.filter_eq_self.mpr (fun _ _ => rfl)] at this
        refine Jf.eq this ?_
        unfold rankRows
        rw [List.map_map]
        rfl
      · rw [kk] at hs
        obtain ⟨l, hl⟩ := F.down hp ((g.mem s).mp hs)
        exact jd_tup (ds := [sD s, .int ((rkOf fm s).getD 0)]) (ja_cons (jd_var (i := 6) rfl) (ja_cons (jd_dget (d := .int ((rkOf fm s).getD 0)) (jd_var (i := 5) rfl) (jd_var (i := 6) rfl) (by rw [lookD_rk, rkOf_mem F.nd hl]; rfl)) ja_nil)) (by simp)
    · exact noLs_of fun d hd => by obtain ⟨x, _, rfl⟩ := List.mem_map.mp hd; exact noL_rkD x
    · intro d hd
      obtain ⟨x, _, rfl⟩ := List.mem_map.mp hd
      exact depth_rkD x
  · exact js_ret (Jd.imp (jd_call (S := sg_ring_walk C) (a, b, st, p) ⟨hd.dom1, hno⟩ (ja_cons (jd_var (i := 4) rfl) (ja_cons (Jd.imp (jd_var (i := 5) rfl) fun v H h => ⟨fm, F, h⟩) (ja_cons (jd_var (i := 3) rfl) ja_nil)))) fun v H h => by
      obtain ⟨z, h1, h2⟩ := h
      exact .inr ⟨hno, z, h1, h2⟩)

abbrev N_ring_is_rank : List Str := ["near", "far", "standing", "thing"]
theorem sc_ring_is_rank : FnScope N_ring_is_rank ["near", "far", "standing", "thing"] (defScope s_ring_is_rank) := ⟨rfl, rfl, rfl, by decide +kernel, rfl, by decide +kernel, by decide +kernel⟩
def sg_ring_is_rank (C : Cn) : Sg (Ch × Ch × List Int × List Int × Int) := ⟨fun x => Dom1 x.1 x.2.1 x.2.2.1 x.2.2.2.1 ∧ (x.2.2.2.1.all fun y => x.2.2.1.contains y) = true ∧ agreedB x.1 x.2.1 x.2.2.2.1 = true ∧ 0 ≤ x.2.2.2.2, fun x => [cho C x.1, cho C x.2.1, dt (sD x.2.2.1), dt (rkD x.2.2.2)], fun x => dt (.bool true)⟩
def sp_ring_is_rank (C : Cn) : Sp := (sg_ring_is_rank C).sp
theorem ok_ring_is_rank {P : Program} {w : World} {K : PySem.W.Frag} {mg : Str → Option Value} {base : Heap} {C : Cn} {f : Addr} {fd : FuncData} (F : FunD K "ring_is_rank" "ring_is_rank" (defArgs s_ring_is_rank) (defBody s_ring_is_rank) (defScope s_ring_is_rank) [] [] f fd) (m : mg "ring_is_rank" = some (.ref f)) (T : Top K mg C) (c_is_whole : Cal P w K mg base 1 "is_whole" (sp_is_whole C) []) (c_chain_is_part : Cal P w K mg base 3 "chain_is_part" (sp_chain_is_part C) []) :
    Cal P w K mg base 4 "ring_is_rank" (sp_ring_is_rank C) [] := by
  refine cal_of F (fn_js (S := sg_ring_is_rank C) (k := 3) F sc_ring_is_rank (fun _ => rfl) fun cdv A outer s H E hr => ⟨_, PSs.nox ((pss_cons (ps_if (PW.pt (pw_or (pt_not (pt_val (pe_callB (c_isi (K := K) rfl) (by rfl) T.isinstance_ boot_isinstance (pa_cons (pv 3) (pa_cons (pe_bltn (v := .ty "tuple") (by rfl) T.tuple_ boot_tuple rfl) pa_nil))))) (pw_or (pt_cmpR (o_ne (K := K) rfl hr.units) (pe_callB (c_len (K := K) rfl) (by rfl) T.len_ boot_len (pa_cons (pv 3) pa_nil)) pe_int (nomark _)) (pw_or1 (pt_not (pt_val (pe_c c_chain_is_part hr (by decide) (by rfl) (pa_cons (pv 0) (pa_cons (pv 1) (pa_cons (pv 2) (pa_cons (pe_ix (x_ix (K := K) rfl) (pv 3) pe_int (fun _ _ => rfl)) pa_nil))))))))))) (pss_one (ps_ret pe_bl)) pss_nil)
    (pss_one (ps_ret (pe_and (pe_c c_is_whole hr (by decide) (by rfl) (pa_cons (pe_ix (x_ix (K := K) rfl) (pv 3) pe_int (fun _ _ => rfl)) pa_nil)) (pe_one (pe_cmpR op_ge (pe_ix (x_ix (K := K) rfl) (pv 3) pe_int (fun _ _ => rfl)) pe_int (nomark _)))))))), fun x hd => ?_⟩) m (fun _ _ _ _ _ _ us hl => match us, hl with | [_, _, _, _], _ => rfl)
  obtain ⟨a, b, st, s, k⟩ := x
  have hd : Dom1 a b st s ∧ (s.all fun y => st.contains y) = true ∧ agreedB a b s = true ∧ 0 ≤ k := hd
  obtain ⟨hd, h1, h2, h3⟩ := hd
  have at0 : ∀ {Γ : Gm}, Γ[3]? = some (some (dt (rkD (s, k)))) → Jd Γ (tOp (rIxA K) (tVar 3) (tC (.int 0))) (dt (sD s)) := fun {Γ} e => jd_ixT (ds := [sD s, .int k]) (jd_var e) jd_int rfl
  have at1 : ∀ {Γ : Gm}, Γ[3]? = some (some (dt (rkD (s, k)))) → Jd Γ (tOp (rIxA K) (tVar 3) (tC (.int 1))) (dt (.int k)) := fun {Γ} e => jd_ixT (ds := [sD s, .int k]) (jd_var e) jd_int rfl
  refine ⟨[], False, js_seq (js_guard (Jt.eq (jt_or (jt_not (jt_B (jd_isTup (ds := [sD s, .int k]) (jd_var (i := 3) rfl) jd_ty))) fun _ => jt_or (jt_test (jd_neInt (jd_lenT (ds := [sD s, .int k]) (jd_var (i := 3) rfl)) jd_int)) fun _ => jt_not (jt_B (jd_call (S := sg_chain_is_part C) (a, b, st, s) hd (ja_cons (jd_var rfl) (ja_cons (jd_var rfl) (ja_cons (jd_var rfl) (ja_cons (at0 rfl) ja_nil))))))) ?_)) fun _ =>
    js_ret ((jd_and (jd_call (S := sg_is_whole C) k trivial (ja_cons (at1 rfl) ja_nil)) fun _ => jd_ge (at1 rfl) jd_int).eq ?_), fun z => z.elim⟩
  · show (false || (false || !((s.all fun y => st.contains y) && agreedB a b s))) = false
    rw [h1, h2]
    rfl
  · rw [decide_eq_true h3]
    rfl

structure DomE (a b : Ch) (st p : List Int) : Prop extends Dom1 a b st p where
  rok : ∀ s, Reach a b st p s → (s.all fun y => st.contains y) = true ∧ agreedB a b s = true
theorem zip_lt : ∀ {x0 : List Int × Int} {fm : RkL}, (x0 :: fm).Pairwise (fun x y => HT.lexLt x.1 y.1 = true) → ∀ z ∈ (x0 :: fm).zip fm, HT.lexLt z.1.1 z.2.1 = true
  | x0, [], _, z, h => by simp at h
  | x0, x1 :: fm, pw, z, h => by
    rw [List.zip_cons_cons] at h
    rcases List.mem_cons.mp h with e | e
    · rw [e]
      exact (List.pairwise_cons.mp pw).1 _ (List.mem_cons_self ..)
    · exact zip_lt (List.pairwise_cons.mp pw).2 z e

abbrev N_ring_ranks_hold : List Str := ["near", "far", "standing", "part", "rows", "row", "one", "other", "ranks", "here", "offer", "behind"]
theorem sc_ring_ranks_hold : FnScope N_ring_ranks_hold ["near", "far", "standing", "part", "rows"] (defScope s_ring_ranks_hold) := ⟨rfl, rfl, rfl, by decide +kernel, rfl, by decide +kernel, by decide +kernel⟩
def sg_ring_ranks_hold (C : Cn) : Sg (Ch × Ch × List Int × List Int × RkL) := ⟨fun x => DomE x.1 x.2.1 x.2.2.1 x.2.2.2.1 ∧ IsPaper x.1 x.2.1 x.2.2.1 x.2.2.2.1 x.2.2.2.2, fun x => [cho C x.1, cho C x.2.1, dt (sD x.2.2.1), dt (sD x.2.2.2.1), rowsZ x.2.2.2.2], fun x => dt (.bool true)⟩
def sp_ring_ranks_hold (C : Cn) : Sp := (sg_ring_ranks_hold C).sp
theorem ok_ring_ranks_hold {P : Program} {w : World} {K : PySem.W.Frag} {mg : Str → Option Value} {base : Heap} {C : Cn} {f : Addr} {fd : FuncData} (F : FunD K "ring_ranks_hold" "ring_ranks_hold" (defArgs s_ring_ranks_hold) (defBody s_ring_ranks_hold) (defScope s_ring_ranks_hold) [] [] f fd) (m : mg "ring_ranks_hold" = some (.ref f)) (T : Top K mg C) (c_press_moves : Cal P w K mg base 4 "press_moves" (sp_press_moves C) []) (c_ring_is_rank : Cal P w K mg base 4 "ring_is_rank" (sp_ring_is_rank C) []) :
    Cal P w K mg base 5 "ring_ranks_hold" (sp_ring_ranks_hold C) [] := by
  refine cal_of F (fn_js (S := sg_ring_ranks_hold C) (k := 4) F sc_ring_ranks_hold (fun _ => rfl) fun cdv A outer s H E hr => ⟨_, PSs.nox ((pss_cons (ps_if (PW.pt (pw_or (pt_not (pt_val (pe_callB (c_isi (K := K) rfl) (by rfl) T.isinstance_ boot_isinstance (pa_cons (pv 4) (pa_cons (pe_bltn (v := .ty "tuple") (by rfl) T.tuple_ boot_tuple rfl) pa_nil))))) (pw_or1 (pt_not (pt_val (pe_callB (c_all (K := K) rfl rfl) (by rfl) T.all_ boot_all (pa_cons (pe_lc (own := [("row", 5)]) rfl sc_ring_ranks_hold.nd (i_seq (K := K) rfl (pv 4)) (blkOk_by (own := [("row", 5)]) (N := N_ring_ranks_hold) (sc := defScope s_ring_ranks_hold) (by decide +kernel)) (fun _ _ _ _ _ => (pg_name (i := 5) sc_ring_ranks_hold.nd rfl (Or.inl rfl))) (fun _ _ _ _ _ => pts_nil) (fun _ _ _ _ _ => (pe_c c_ring_is_rank hr (by decide) (by rfl) (pa_cons (pv 0) (pa_cons (pv 1) (pa_cons (pv 2) (pa_cons (pv 5) pa_nil))))))) pa_nil))))))) (pss_one (ps_ret pe_bl)) pss_nil)
    (pss_cons (ps_if (pt_not (pt_val (pe_callB (c_all (K := K) rfl rfl) (by rfl) T.all_ boot_all (pa_cons (pe_lc (own := [("one", 6), ("other", 7)]) rfl sc_ring_ranks_hold.nd (z_zip (K := K) rfl (by rfl) T.zip_ (pa_cons (pv 4) (pa_cons (pe_slice (s_tup (K := K) rfl) (pv 4) (po_some pe_int) po_none) pa_nil))) (blkOk_by (own := [("one", 6), ("other", 7)]) (N := N_ring_ranks_hold) (sc := defScope s_ring_ranks_hold) (by decide +kernel)) (fun _ _ _ _ _ => (g_tup (K := K) (n := 2) rfl (by rfl) (pgs_cons (pg_name (i := 6) sc_ring_ranks_hold.nd rfl (Or.inl rfl)) (pgs_cons (pg_name (i := 7) sc_ring_ranks_hold.nd rfl (Or.inl rfl)) pgs_nil)))) (fun _ _ _ _ _ => pts_nil) (fun _ _ _ _ _ => (pe_cmpR (o_ltT (K := K) rfl hr.units0) (pe_ix (x_ix (K := K) rfl) (pv 6) pe_int (fun _ _ => rfl)) (pe_ix (x_ix (K := K) rfl) (pv 7) pe_int (fun _ _ => rfl)) (nomark _)))) pa_nil)))) (pss_one (ps_ret pe_bl)) pss_nil)
    (pss_cons (ps_set (i := 8) sc_ring_ranks_hold.nd rfl (Or.inl rfl) (pe_callTy (call_dictP2 rfl (hu65 hr)) (by rfl) T.dict_ boot_dict (pa_cons (pv 4) pa_nil)))
    (pss_cons (ps_if (pt_cmp (pc_dnotin (hu_of hr) (pv 3) (pv 8))) (pss_one (ps_ret pe_bl)) pss_nil)
    (pss_cons (ps_lock (ps_for PassesOwn.never rfl (pi_keys (pv 8)) (pg_name (i := 9) sc_ring_ranks_hold.nd rfl (Or.inl rfl)) (pss_one (ps_for PassesOwn.never rfl (i_seq (K := K) rfl (pe_c c_press_moves hr (by decide) (by rfl) (pa_cons (pv 0) (pa_cons (pv 1) (pa_cons (pv 2) (pa_cons (pv 9) pa_nil)))))) (g_tup (K := K) (n := 2) rfl (by rfl) (pgs_cons (pg_name (i := 10) sc_ring_ranks_hold.nd rfl (Or.inl rfl)) (pgs_cons (pg_name (i := 11) sc_ring_ranks_hold.nd rfl (Or.inl rfl)) pgs_nil))) (pss_one (ps_if (PW.pt (pw_or (pt_cmp (pc_dnotin (hu_of hr) (pv 11) (pv 8))) (pw_or1 (pt_cmpR op_ge (pe_dget (hu_of hr) (pv 8) (pv 11) (fun _ _ => rfl)) (pe_dget (hu_of hr) (pv 8) (pv 9) (fun _ _ => rfl)) (nomark _))))) (pss_one (ps_ret pe_bl)) pss_nil))))))
    (pss_one (ps_ret pe_bl)))))))), fun x hd => ?_⟩) m (fun _ _ _ _ _ _ us hl => match us, hl with | [_, _, _, _, _], _ => rfl)
  obtain ⟨a, b, st, p, fm⟩ := x
  have hd1 : DomE a b st p ∧ IsPaper a b st p fm := hd
  obtain ⟨kp, hp⟩ := hd1.2.pr
  clear hd
  obtain ⟨hd, F⟩ := hd1
  obtain ⟨x0, fm', e0⟩ : ∃ x0 fm', fm = x0 :: fm' := by
    cases fm with
    | nil => cases hp
    | cons x0 fm' => exact ⟨_, _, rfl⟩
  have few : fm.length ≤ 64 := F.few hd.toDom1
  have so : (x0 :: fm').Pairwise fun x y => HT.lexLt x.1 y.1 = true := e0 ▸ F.so
  have sm : ∀ {o : Option Int}, (o.map PyData.int).isSome = o.isSome := fun {o} => by cases o <;> rfl
  let A4 : Gm := [some (cho C a), some (cho C b), some (dt (sD st)), some (dt (sD p))]
  let AR : Gm := A4 ++ [none, none, none, none, some (dicT (rkDict fm)), none, none, none]
  have lkA := lk_of (Γ := AR) (i := 8) ⟨lk_cho C a, lk_cho C b, lk_dt _, lk_dt _, trivial⟩
  have zl : ((x0 :: fm').zip fm').length ≤ 1000 := by
    rw [List.length_zip]
    have : (x0 :: fm').length ≤ 64 := e0 ▸ few
    omega
  refine ⟨[], False, js_seq (js_guard (Jt.eq (jt_or (jt_not (jt_B (jd_isTupZ (fm := fm) (jd_var (i := 4) rfl) jd_ty))) fun _ => jt_not (jt_B (jd_all (bs := fm.map fun _ => true) (jd_of_jf (Jf.eq (jf_lc (xs := fm) (Y := fun x => dt (rkD x)) (bind := fun x Γ => Γ.set 5 (some (dt (rkD x)))) (p := fun _ => true) (q := fun _ => .bool true) (ji_tupZ (jd_var (i := 4) rfl)) (tg_name 5) (fun x hx => jt_yes) (fun x hx _ => jd_call (S := sg_ring_is_rank C) (a, b, st, x.1, x.2) ⟨⟨hd.two, hd.hst, reach_set hd.two hd.hst hd.hpt (F.rk x hx)⟩, (hd.rok _ (F.rk x hx)).1, (hd.rok _ (F.rk x hx)).2, F.r0 x hx⟩ (ja_cons (jd_var rfl) (ja_cons (jd_var rfl) (ja_cons (jd_var rfl) (ja_cons (jd_var (i := 5) rfl) ja_nil))))) (by omega) (fun x _ _ => by simp [noL])) ?_))))) ?_)) fun _ =>
    js_seq (js_guard (Jt.eq (jt_not (jt_B (jd_all (bs := ((x0 :: fm').zip fm').map fun _ => true) (jd_of_jf (Jf.eq (jf_lc (xs := (x0 :: fm').zip fm') (Y := fun z => dt (.tuple [rkD z.1, rkD z.2])) (bind := fun z Γ => (Γ.set 6 (some (dt (rkD z.1)))).set 7 (some (dt (rkD z.2)))) (p := fun _ => true) (q := fun _ => .bool true) (ji_zipZ (Jd.imp (jd_var (i := 4) rfl) fun v H h => by rw [← e0]; exact h)) (tg_pair (A := fun z : (List Int × Int) × (List Int × Int) => rkD z.1) (B := fun z => rkD z.2) 6 7) (fun x hx => jt_yes) (fun z hz _ => (jd_ltT (jd_ixT (ds := [sD z.1.1, .int z.1.2]) (jd_var (i := 6) rfl) jd_int rfl) (jd_ixT (ds := [sD z.2.1, .int z.2.2]) (jd_var (i := 7) rfl) jd_int rfl)).eq (by rw [zip_lt so z hz])) zl (fun x _ _ => by simp [noL])) ?_))))) ?_)) fun _ =>
    js_seq (js_weak (js_asg (i := 8) (jd_dictZ (fm := fm) (jd_var (i := 4) rfl) F.nd (by omega))) (Γ2 := AR) ⟨rfl, rfl, rfl, rfl, rfl, trivial⟩) fun _ =>
    js_seq (js_guard (Jt.eq (jt_B (jd_dnotin (jd_var (i := 3) rfl) (Jd.imp (jd_var (i := 8) rfl) fun v H h => dicT_F h))) ?_)) fun _ =>
    js_seq (js_lock (i := 8) (m := rkDict fm) (C := True) (Γ' := [none, none, none, none, none, none, none, none, none, none, none, none]) rfl lkA (lk_dt _) fun d => ?_) fun _ => js_ret jd_bl, fun z => z.elim⟩
  · rw [List.filter_eq_self.mpr (fun _ _ => rfl), List.map_map]
    rfl
  · show (false || !((fm.map fun _ => true).all id)) = false
    rw [List.all_map]
    have : fm.all (id ∘ fun _ => true) = true := List.all_eq_true.mpr fun _ _ => rfl
    rw [this]
    rfl
  · rw [List.filter_eq_self.mpr (fun _ _ => rfl), List.map_map]
    rfl
  · rw [List.all_map]
    have : ((x0 :: fm').zip fm').all (id ∘ fun _ => true) = true := List.all_eq_true.mpr fun _ _ => rfl
    rw [this]
    rfl
  · rw [lookD_rk, sm, rkOf_mem F.nd hp]
    rfl
  · have kk : (rkDict fm).map (·.1) = fm.map (·.1) := by unfold rkDict; rw [List.map_map]; rfl
    let AZ : Gm := A4 ++ [none, none, none, none, some (dicZ d (rkDict fm)), none, none, none]
    have fz : ∀ {Γ : Gm}, Γ[8]? = some (some (dicZ d (rkDict fm))) → Jd Γ (tVar 8) (dicF (rkDict fm)) := fun {Γ} e => Jd.imp (jd_var e) fun v H h => dicZ_F h
    refine ⟨AZ, js_weak (js_for (xs := (rkDict fm).map (·.1)) (bind := fun s Γ => Γ.set 9 (some (dt (sD s)))) (Γs := fun _ => AZ) (C := fun _ => True) (ji_keys (i := 8) rfl) (tg_name 9) trivial fun i s hs _ => ?_) ⟨rfl, rfl, rfl, rfl, rfl, trivial⟩, rfl, fun k t q => ?_⟩
    · rw [kk] at hs
      obtain ⟨x, hx, rfl⟩ := List.mem_map.mp (List.mem_of_getElem? hs)
      have rs := F.rk x hx
      have hset := reach_set hd.two hd.hst hd.hpt rs
      have lx : rkOf fm x.1 = some x.2 := rkOf_mem F.nd hx
      refine js_weak (js_for (xs := movesOf a b st x.1) (bind := fun y Γ => (Γ.set 10 (some (dt (.int y.1)))).set 11 (some (dt (sD y.2)))) (Γs := fun _ => AZ.set 9 (some (dt (sD x.1)))) (C := fun _ => True) (ji_lst (D := movD) (jd_of_jf (jf_call (S := sf_press_moves C) (a, b, st, x.1) ⟨hd.two, hd.hst, hset⟩ (ja_cons (jd_var rfl) (ja_cons (jd_var rfl) (ja_cons (jd_var rfl) (ja_cons (jd_var (i := 9) rfl) ja_nil))))))) (tg_pair (A := fun y : Int × List Int => .int y.1) (B := fun y => sD y.2) 10 11) trivial fun i y hy _ => ?_) ⟨rfl, rfl, rfl, rfl, rfl, trivial⟩
      obtain ⟨l, hl, hlt⟩ := F.lt x hx y (List.mem_of_getElem? hy)
      have ly : rkOf fm y.2 = some l := rkOf_mem F.nd hl
      refine js_weak (js_guard (Jt.eq (jt_or (jt_B ((jd_dnotin (jd_var (i := 11) rfl) (fz rfl)).eq (d' := .bool false) (by rw [lookD_rk, sm, ly]; rfl))) fun _ => jt_test (jd_ge (i := l) (j := x.2) (jd_dget (d := .int l) (fz rfl) (jd_var (i := 11) rfl) (by rw [lookD_rk, ly]; rfl)) (jd_dget (d := .int x.2) (fz rfl) (jd_var (i := 9) rfl) (by rw [lookD_rk, lx]; rfl)))) ?_)) ⟨rfl, rfl, rfl, rfl, rfl, rfl, trivial⟩
      rw [Bool.false_or]
      exact decide_eq_false (by omega)
    · match k, q with
      | 0, q => cases q
      | 1, q => cases q
      | 2, q => cases q
      | 3, q => cases q
      | 4, q => cases q
      | 5, q => cases q
      | 6, q => cases q
      | 7, q => cases q
      | 8, q => cases q
      | 9, q => cases q
      | 10, q => cases q
      | 11, q => cases q
      | k + 12, q => exact absurd (List.getElem?_eq_some_iff.mp q).1 (by show ¬ k + 12 < 12; omega)
end Ost
set_option Elab.async false
set_option linter.all false
set_option maxRecDepth 100000
set_option maxHeartbeats 1000000
/-! D16: what ends_hold says of a paper. -/
namespace Ost
open PySem PySem.Spec PyProof.Rows L2
open C8 (Cal pe_c Mak pe_mk Met pe_gc)

def paperD (fm : RkL) : PyData := .tuple [.str "ranks", .tuple (fm.map rkD)]
theorem paper_dp {K : PySem.W.Frag} {fm : RkL} {v : V} {H : Hp} (h : (paperR fm).P v H) : Dp K H v (paperD fm) := by
  obtain ⟨l, vs, rfl, h1, h2⟩ := h
  obtain ⟨v, w, rfl, p1, p2⟩ := fits2 h2
  obtain ⟨r, o, us, rfl, q1, _, q3⟩ := p2
  exact .tup (SqT.of h1) (.cons (Tp.dp _ _ p1) (.cons (.tup (.inl (.inr ⟨o, q1⟩)) (TpAll.dp _ _ q3)) .nil))
theorem sh_paperD (fm : RkL) : SeqAt.shaped (paperD fm) = true := (sh_tup (k := 3) fun d hd => by
  simp only [List.mem_cons, List.not_mem_nil, or_false] at hd
  rcases hd with rfl | rfl
  · exact sh_str _ (by decide +kernel)
  · exact sh_tup fun d hd => by obtain ⟨x, _, rfl⟩ := List.mem_map.mp hd; exact sh_rkD x).ok (by decide)
theorem sh_ringD (z : List Int × List Int × List Int) : SeqAt.shaped (ringD z) = true := (sh_tup (k := 1) fun d hd => by
  simp only [List.mem_cons, List.not_mem_nil, or_false] at hd
  rcases hd with rfl | rfl | rfl
  · exact sh_str _ (by decide +kernel)
  · exact sh_sD _
  · exact sh_sD _).ok (by decide)
theorem jd_eqDp {Γ : Gm} {ta tb : TE} {K : PySem.W.Frag} {A : VT} {d e : PyData} (h1 : Jd Γ ta A) (h2 : Jd Γ tb (dt e)) (p : ∀ v H, A.P v H → Dp K H v d) (s1 : SeqAt.shaped d = true) (s2 : SeqAt.shaped e = true) : Jd Γ (tOp (rEqD K) ta tb) (dt (.bool (PyData.eqv d e))) :=
  jd_op h1 h2 fun x y H Q p1 p2 k => ⟨d, e, p x H p1, Tp.dp _ _ p2, s1, s2, k _ H (Same.refl H) (dt_bl _)⟩

theorem pc1 (n : Nat) (h : n = 2) : (decide (("ranks" : PySem.Str) = "ranks") && decide ((n : Int) = 2)) = true := by subst h; decide +kernel
theorem pc2 (n : Nat) : (decide (("ring" : PySem.Str) = "ranks") && decide ((n : Int) = 2)) = false := by
  rw [show decide (("ring" : PySem.Str) = "ranks") = false by decide +kernel]
  rfl
theorem pc3 (n : Nat) (h : n = 3) : (!decide (("ring" : PySem.Str) = "ring") || (!decide ((n : Int) = 3) || (!true || !true))) = false := by subst h; decide +kernel
abbrev N_ends_hold : List Str := ["near", "far", "standing", "part", "thing", "begun"]
theorem sc_ends_hold : FnScope N_ends_hold ["near", "far", "standing", "part", "thing"] (defScope s_ends_hold) := ⟨rfl, rfl, rfl, by decide +kernel, rfl, by decide +kernel, by decide +kernel⟩
noncomputable def sg_ends_hold (C : Cn) : Sg (Ch × Ch × List Int × List Int) := ⟨fun x => Dom4 x.1 x.2.1 x.2.2.1 x.2.2.2 ∧ DomE x.1 x.2.1 x.2.2.1 x.2.2.2, fun x => [cho C x.1, cho C x.2.1, dt (sD x.2.2.1), dt (sD x.2.2.2), paperT x.1 x.2.1 x.2.2.1 x.2.2.2], fun x => dt (.bool true)⟩
noncomputable def sp_ends_hold (C : Cn) : Sp := (sg_ends_hold C).sp
theorem ok_ends_hold {P : Program} {w : World} {K : PySem.W.Frag} {mg : Str → Option Value} {base : Heap} {C : Cn} {f : Addr} {fd : FuncData} (F : FunD K "ends_hold" "ends_hold" (defArgs s_ends_hold) (defBody s_ends_hold) (defScope s_ends_hold) [] [] f fd) (m : mg "ends_hold" = some (.ref f)) (T : Top K mg C) (c_press_check : Cal P w K mg base 6 "press_check" (sp_press_check C) []) (c_chain_end_of : Cal P w K mg base 4 "chain_end_of" (sp_chain_end_of C) []) (c_ring_ranks_hold : Cal P w K mg base 5 "ring_ranks_hold" (sp_ring_ranks_hold C) []) :
    Cal P w K mg base 7 "ends_hold" (sp_ends_hold C) [] := by
  refine cal_of F (fn_js (S := sg_ends_hold C) (k := 6) F sc_ends_hold (fun _ => rfl) fun cdv A outer s H E hr => ⟨_, PSs.nox ((pss_cons (ps_expr (pe_c c_press_check hr (by decide) (by rfl) (pa_cons (pv 0) (pa_cons (pv 1) (pa_cons (pv 2) (pa_cons (pv 3) pa_nil))))))
    (pss_cons (ps_if (PW.pt (pw_or (pt_not (pt_val (pe_callB (c_isi (K := K) rfl) (by rfl) T.isinstance_ boot_isinstance (pa_cons (pv 4) (pa_cons (pe_bltn (v := .ty "tuple") (by rfl) T.tuple_ boot_tuple rfl) pa_nil))))) (pw_or1 (pt_cmpR (o_eq (K := K) rfl hr.units) (pv 4) (pe_tup pa_nil) (nomark _))))) (pss_one (ps_ret pe_bl)) pss_nil)
    (pss_cons (ps_if (PW.pt (pw_and (pt_cmpR (o_eq (K := K) rfl hr.units) (pe_ix (x_ix (K := K) rfl) (pv 4) pe_int (fun _ _ => rfl)) pe_str (nomark _)) (pw_and1 (pt_cmpR (o_eq (K := K) rfl hr.units) (pe_callB (c_len (K := K) rfl) (by rfl) T.len_ boot_len (pa_cons (pv 4) pa_nil)) pe_int (nomark _))))) (pss_one (ps_ret (pe_c c_ring_ranks_hold hr (by decide) (by rfl) (pa_cons (pv 0) (pa_cons (pv 1) (pa_cons (pv 2) (pa_cons (pv 3) (pa_cons (pe_ix (x_ix (K := K) rfl) (pv 4) pe_int (fun _ _ => rfl)) pa_nil)))))))) pss_nil)
    (pss_cons (ps_if (PW.pt (pw_or (pt_cmpR (o_ne (K := K) rfl hr.units) (pe_ix (x_ix (K := K) rfl) (pv 4) pe_int (fun _ _ => rfl)) pe_str (nomark _)) (pw_or (pt_cmpR (o_ne (K := K) rfl hr.units) (pe_callB (c_len (K := K) rfl) (by rfl) T.len_ boot_len (pa_cons (pv 4) pa_nil)) pe_int (nomark _)) (pw_or (pt_not (pt_val (pe_callB (c_isi (K := K) rfl) (by rfl) T.isinstance_ boot_isinstance (pa_cons (pe_ix (x_ix (K := K) rfl) (pv 4) pe_int (fun _ _ => rfl)) (pa_cons (pe_bltn (v := .ty "tuple") (by rfl) T.tuple_ boot_tuple rfl) pa_nil))))) (pw_or1 (pt_not (pt_val (pe_callB (c_isi (K := K) rfl) (by rfl) T.isinstance_ boot_isinstance (pa_cons (pe_ix (x_ix (K := K) rfl) (pv 4) pe_int (fun _ _ => rfl)) (pa_cons (pe_bltn (v := .ty "tuple") (by rfl) T.tuple_ boot_tuple rfl) pa_nil)))))))))) (pss_one (ps_ret pe_bl)) pss_nil)
    (pss_cons (ps_set (i := 5) sc_ends_hold.nd rfl (Or.inl rfl) (pe_c c_chain_end_of hr (by decide) (by rfl) (pa_cons (pv 0) (pa_cons (pv 1) (pa_cons (pv 2) (pa_cons (pv 3) (pa_cons (pe_ix (x_ix (K := K) rfl) (pv 4) pe_int (fun _ _ => rfl)) pa_nil)))))))
    (pss_cons (ps_if (PW.pt (pw_or (pt_cmpR op_isN0 (pv 5) pe_non (nomark _)) (pw_or1 (pt_cmpR (o_eq (K := K) rfl hr.units) (pe_ix (x_ix (K := K) rfl) (pv 4) pe_int (fun _ _ => rfl)) (pe_tup pa_nil) (nomark _))))) (pss_one (ps_ret pe_bl)) pss_nil)
    (pss_one (ps_ret (pe_cmpR (o_eq (K := K) rfl hr.units) (pe_c c_chain_end_of hr (by decide) (by rfl) (pa_cons (pv 0) (pa_cons (pv 1) (pa_cons (pv 2) (pa_cons (pv 5) (pa_cons (pe_ix (x_ix (K := K) rfl) (pv 4) pe_int (fun _ _ => rfl)) pa_nil)))))) (pv 5) (nomark _))))))))))), fun x hd => ?_⟩) m (fun _ _ _ _ _ _ us hl => match us, hl with | [_, _, _, _, _], _ => rfl)
  obtain ⟨a, b, st, p⟩ := x
  have hd : Dom4 a b st p ∧ DomE a b st p := hd
  obtain ⟨hd, hE⟩ := hd
  let A4 : Gm := [some (cho C a), some (cho C b), some (dt (sD st)), some (dt (sD p))]
  refine ⟨[], False, js_seq (js_drop (jd_call (S := sg_press_check C) (a, b, st, p) hd (ja_cons (jd_var rfl) (ja_cons (jd_var rfl) (ja_cons (jd_var rfl) (ja_cons (jd_var rfl) ja_nil)))))) fun _ =>
    js_open (i := 4) rfl (T' := fun x : { fm // IsPaper a b st p fm } ⊕ { z // IsRing a b st p z } => x.elim (fun fm => paperR fm.1) (fun z => dt (ringD z.1))) (fun v H h => ?_) fun x => ?_, fun z => z.elim⟩
  · rcases h with ⟨fm, h1, h2⟩ | ⟨h1, z, h2, h3⟩
    · exact ⟨.inl ⟨fm, h1⟩, h2⟩
    · exact ⟨.inr ⟨z, h2⟩, h3⟩
  · rcases x with ⟨fm, F⟩ | ⟨z, R⟩
    · have v4 : ∀ {Γ : Gm}, Γ[4]? = some (some (paperR fm)) → Jd Γ (tVar 4) (tupV [dt (.str "ranks"), rowsZ fm]) := fun {Γ} e => jd_var e
      exact js_seq (js_guard (Jt.eq (jt_or (jt_not (jt_B (jd_isTV (v4 rfl) jd_ty))) fun _ => jt_test (jd_eqDp (jd_var (i := 4) (T := paperR fm) rfl) jd_nil (fun v H h => paper_dp h) (sh_paperD fm) (sh_sD1 []))) (by simp [paperD, PyData.eqv, PyData.eqvAll]))) fun _ =>
        js_seq (js_if (C := False) (Γ' := []) (b := true) (Jt.eq (jt_and (jt_test (jd_eqStr (jd_ixTV (v4 rfl) jd_int atI_zero) jd_str (by decide +kernel) (by decide +kernel))) fun _ => jt_test (jd_eqInt (jd_lenTV (v4 rfl)) jd_int)) (pc1 _ rfl)) (fun _ => js_ret (jd_call (S := sg_ring_ranks_hold C) (a, b, st, p, fm) ⟨hE, F⟩ (ja_cons (jd_var rfl) (ja_cons (jd_var rfl) (ja_cons (jd_var rfl) (ja_cons (jd_var rfl) (ja_cons (jd_ixTV (v4 rfl) jd_int (atI_nat (j := 1) rfl)) ja_nil))))))) (fun z => by cases z)) fun z => z.elim
    · obtain ⟨pre, cyc, bg⟩ := z
      have v4 : ∀ {Γ : Gm}, Γ[4]? = some (some (dt (ringD (pre, cyc, bg)))) → Jd Γ (tVar 4) (dt (.tuple [.str "ring", sD pre, sD cyc])) := fun {Γ} e => jd_var e
      have at0 : ∀ {Γ : Gm}, Γ[4]? = some (some (dt (ringD (pre, cyc, bg)))) → Jd Γ (tOp (rIxA K) (tVar 4) (tC (.int 0))) (dt (.str "ring")) := fun {Γ} e => jd_ixT (v4 e) jd_int atI_zero
      have at1 : ∀ {Γ : Gm}, Γ[4]? = some (some (dt (ringD (pre, cyc, bg)))) → Jd Γ (tOp (rIxA K) (tVar 4) (tC (.int 1))) (dt (sD pre)) := fun {Γ} e => jd_ixT (v4 e) jd_int (atI_nat (j := 1) rfl)
      have at2 : ∀ {Γ : Gm}, Γ[4]? = some (some (dt (ringD (pre, cyc, bg)))) → Jd Γ (tOp (rIxA K) (tVar 4) (tC (.int 2))) (dt (sD cyc)) := fun {Γ} e => jd_ixT (v4 e) jd_int (atI_nat (j := 2) rfl)
      have e1 : endOf a b st p pre = some bg := R.pre
      have e2 : endOf a b st bg cyc = some bg := R.cyc
      have hb : IsSet a.n bg := reach_set hd.two hd.hst hd.hpt (endOf_reach e1)
      refine js_seq (js_guard (Jt.eq (jt_or (jt_not (jt_B (jd_isTup (v4 rfl) jd_ty))) fun _ => jt_test (jd_eqD (v4 rfl) jd_nil (sh_ringD (pre, cyc, bg)) (sh_sD1 []))) (by simp [PyData.eqv, PyData.eqvAll]))) fun _ =>
        js_seq (js_guard (Jt.eq (jt_and (jt_test (jd_eqStr (at0 rfl) jd_str (by decide +kernel) (by decide +kernel))) fun _ => jt_test (jd_eqInt (jd_lenT (v4 rfl)) jd_int)) (pc2 _))) fun _ =>
        js_seq (js_guard (Jt.eq (jt_or (jt_test (jd_neStr (at0 rfl) jd_str (by decide +kernel) (by decide +kernel))) fun _ => jt_or (jt_test (jd_neInt (jd_lenT (v4 rfl)) jd_int)) fun _ => jt_or (jt_not (jt_B (jd_isTup (at1 rfl) jd_ty))) fun _ => jt_not (jt_B (jd_isTup (at2 rfl) jd_ty))) (pc3 _ rfl))) fun _ =>
        js_seq (js_weak (js_asg (i := 5) (jd_call (S := sg_chain_end_of C) (a, b, st, p, pre) hd.dom1 (ja_cons (jd_var rfl) (ja_cons (jd_var rfl) (ja_cons (jd_var rfl) (ja_cons (jd_var rfl) (ja_cons (at1 rfl) ja_nil))))))) (Γ2 := A4 ++ [some (dt (ringD (pre, cyc, bg))), some (dt (sD bg))]) ⟨rfl, rfl, rfl, rfl, rfl, ?_, trivial⟩) fun _ =>
        js_seq (js_guard (Jt.eq (jt_or (jt_test (jd_isN (jd_var (i := 5) (T := dt (sD bg)) rfl))) fun _ => jt_test (jd_eqSet (at2 rfl) jd_nil)) ?_)) fun _ =>
        js_ret ((jd_eqD (d := optS (endOf a b st bg cyc)) (e := sD bg) (jd_call (S := sg_chain_end_of C) (a, b, st, bg, cyc) ⟨hd.two, hd.hst, hb⟩ (ja_cons (jd_var rfl) (ja_cons (jd_var rfl) (ja_cons (jd_var rfl) (ja_cons (jd_var (i := 5) rfl) (ja_cons (at2 rfl) ja_nil)))))) (jd_var (i := 5) rfl) (by rw [e2]; exact sh_sD1 bg) (sh_sD1 bg)).eq ?_)
      · show some (dt (optS (endOf a b st p pre))) = some (dt (sD bg))
        rw [e1]
        rfl
      · show (false || decide (cyc = [])) = false
        rw [decide_eq_false (show cyc ≠ [] from R.ne)]
        rfl
      · rw [e2]
        show PyData.bool (PyData.eqv (sD bg) (sD bg)) = PyData.bool true
        rw [eqv_sD]
        simp
end Ost
set_option Elab.async false
set_option linter.all false
set_option maxRecDepth 100000
set_option maxHeartbeats 1000000
/-! K15: decks: types that an erased dict leaves; expressions that draw. -/
namespace Ost
open PySem PySem.Spec PyProof.Rows L2
open C8 (Cal pe_c Mak pe_mk Met pe_gc)
/-- a heap without the thing at d -/
def er (H : Hp) (d : Addr) : Hp := fun b => if b = d then none else H b
theorem er_ne {H : Hp} {d b : Addr} (h : b ≠ d) : er H d b = H b := if_neg h
theorem er_self {H : Hp} {d : Addr} : er H d d = none := if_pos rfl
theorem er_get {H : Hp} {d b : Addr} {kvs : List (Key × V)} {o : HO} (h : H d = some (.dK kvs)) (hb : H b = some o) (n : ∀ ks, o ≠ .dK ks) : er H d b = some o := by
  rw [er_ne fun z => by rw [z, h] at hb; exact n _ (Option.some.inj hb).symm]
  exact hb
theorem er_tls {H : Hp} {d : Addr} {kvs : List (Key × V)} (h : H d = some (.dK kvs)) : TLs H (er H d) := ⟨fun a xs e => er_get h e (fun _ z => by cases z), fun a xs e => er_get h e (fun _ z => by cases z)⟩
theorem er_same {H : Hp} {d : Addr} {o : HO} : Same (er H d) (upd H d o) := .of fun b x e => by
  by_cases z : b = d
  · subst z; rw [er_self] at e; cases e
  · rw [er_ne z] at e; rw [upd_ne z]; exact e
theorem er_le {H : Hp} {d : Addr} : Same (er H d) H := .of fun b x e => by
  by_cases z : b = d
  · subst z; rw [er_self] at e; cases e
  · rw [er_ne z] at e; exact e
theorem er_tab {H : Hp} {P d : Addr} {kvs : List (Key × V)} (h : H d = some (.dK kvs)) : LamX.TabS H P lamQ → LamX.TabS (er H d) P lamQ := by
  rintro ⟨ps, h1, h2, h3⟩
  refine ⟨ps, er_get h h1 (fun _ z => by cases z), h2, fun pos cv hc => ?_⟩
  obtain ⟨c, e1, e2⟩ := h3 pos cv hc
  exact ⟨c, e1, er_get h e2 (fun _ z => by cases z)⟩
/-- a type that does not look at dicts of plain keys -/
def DkS (t : VT) : Prop := ∀ (v : V) (H : Hp) (d : Addr) (kvs : List (Key × V)), H d = some (.dK kvs) → t.P v H → t.P v (er H d)
theorem dk_dt (x : PyData) : DkS (dt x) := fun v H d kvs h p => Tp.tl (er_tls h) _ _ p
theorem dk_dtT (C : Cn) (x : PyData) : DkS (dtT C x) := fun v H d kvs h p => ⟨dk_dt x v H d kvs h p.1, er_tab h p.2⟩
theorem dk_cho (C : Cn) (c : Ch) : DkS (cho C c) := fun v H d kvs h p => by
  have p : chP C c v H := p
  obtain ⟨a, dx, tb, pl, fs, ks, h1, h2, h3, h4, h5, h6, h7, h8⟩ := p
  refine ⟨a, dx, tb, pl, fs, ks, h1, er_get h h2 (fun _ z => by cases z), h3, h4, ?_, fun s hs => by obtain ⟨p, q1, q2⟩ := h6 s hs; exact ⟨p, q1, (er_tls h).1 _ _ q2⟩, (er_tls h).1 _ _ h7, er_tab h h8⟩
  exact h5.elim (fun e => .inl (er_get h e (fun _ z => by cases z))) fun ⟨o, e⟩ => .inr ⟨o, er_get h e (fun _ z => by cases z)⟩

/-! ### a draw -/
def drawV (cs : List Int) (n b : Int) : Int :=
  if n < cs.length then cs.getD n.toNat 0 % b
  else if cs = [] then (n * 5 + n / 3) % b
  else (cs.getD (n % cs.length).toNat 0 / (n + 1) + n * 13 + n / 2) % b
theorem drawV_0 {cs : List Int} {n b : Int} (h : 0 < b) : 0 ≤ drawV cs n b := by
  unfold drawV
  split
  · exact Int.emod_nonneg _ (by omega)
  · split <;> exact Int.emod_nonneg _ (by omega)
theorem drawV_lt {cs : List Int} {n b : Int} (h : 0 < b) : drawV cs n b < b := by
  unfold drawV
  split
  · exact Int.emod_lt_of_pos _ h
  · split <;> exact Int.emod_lt_of_pos _ h
def sp__law_draw (C : Cn) : Sp := fun vs H Q _ => ∃ (d c : Addr) (cs : List Int) (n b : Int), vs = [.ref d, .int b] ∧ H d = some (deckO c n) ∧ H c = some (.lst (cs.map V.int)) ∧ 0 < b ∧ 0 ≤ n ∧ n < 1000 ∧ cs.length ≤ 60 ∧
  ∀ H', Same (upd H d (deckO c (n + 1))) H' → Q (.int (drawV cs n b)) H'

theorem TpAll.erase {H : Hp} : ∀ (n : Nat) {ds : List PyData} {vs : List V}, TpAll H ds vs → TpAll H (ds.eraseIdx n) (vs.eraseIdx n)
  | n, [], vs, h => by
    rw [ta_nil.mp h]
    exact TpAll.nil
  | 0, d :: ds, vs, h => by
    obtain ⟨v, r, rfl, _, h2⟩ := ta_cons.mp h
    exact h2
  | n + 1, d :: ds, vs, h => by
    obtain ⟨v, r, rfl, h1, h2⟩ := ta_cons.mp h
    exact TpAll.cons h1 (TpAll.erase n h2)
/-! ### expressions that draw -/
def Je (Γ : Mm) (te : TE) (d : PyData) (Γ' : Mm) : Prop := ∀ H0 σ H, TyM H0 Γ σ H → ∀ Q : VK, (∀ v H', Fra Γ σ H Γ' σ H' → TyM H0 Γ' σ H' → Tp H' d v → Q v H') → te σ H Q
section
variable {Γ Γ' Γ1 Γ2 : Mm} {ta tb te : TE} {K : PySem.W.Frag} {R : VT} {d d1 d2 : PyData} {i j : Nat} {C : Cn} {E : XK}
theorem je_pure (h : Jd (vtG Γ) te (dt d)) : Je Γ te d Γ := fun H0 σ H ty Q k => h σ H ty.ty _ fun v H1 e p => k v H1 (Fra.same e) (ty.mono e) p
theorem Je.eq (h : Je Γ te d1 Γ') (e : d1 = d2) : Je Γ te d2 Γ' := e ▸ h
theorem je_draw {l c : Addr} {cs : List Int} {n b : Int} (hi : Γ[i]? = some (some (.dek l c cs n))) (hb : Jd (vtG Γ) te (dt (.int b))) (b0 : 0 < b) (n0 : 0 ≤ n) (n1 : n < 1000) (hc : cs.length ≤ 60) :
    Je Γ (tCall (sp__law_draw C) [] E (tCons (tVar i) (tCons te tNil))) (.int (drawV cs n b)) (Γ.set i (some (.dek l c cs (n + 1)))) := fun H0 σ H ty Q k => by
  obtain ⟨v, h1, rfl, h2, h3, h4⟩ := ty.at_ i _ hi
  refine ⟨.ref l, h1, hb σ H ty.ty _ fun x H1 e p => ?_⟩
  have := of_int p
  subst this
  have h3' : H1 l = some (deckO c n) := e.get h3
  have ty1 := ty.mono e
  have hc1 : H1 c = some (.lst (cs.map V.int)) := ty1.same.get h4
  refine ⟨l, c, cs, n, b, rfl, h3', hc1, b0, n0, n1, hc, fun H' e' => ?_⟩
  obtain ⟨t2, f2⟩ := ty1.write (t' := .dek l c cs (n + 1)) (o := deckO c (n + 1)) hi rfl rfl h1 (nocode_dK h3') ⟨rfl, h2, upd_same, h4⟩
  exact k _ H' (((Fra.same e).trans f2).trans (Fra.same e')) (t2.mono e') (tp_int.mpr rfl)
theorem je_op {r : R2} (h1 : Je Γ ta d1 Γ1) (n : noL d1 = true) (h2 : Je Γ1 tb d2 Γ2) (hr : ∀ x y H (Q : VK), Tp H d1 x → Tp H d2 y → (∀ v H2, Same H H2 → Tp H2 d v → Q v H2) → r x y H Q) : Je Γ (tOp r ta tb) d Γ2 := fun H0 σ H ty Q k =>
  h1 H0 σ H ty _ fun x H1 f1 ty1 p1 => h2 H0 σ H1 ty1 _ fun y H2 f2 ty2 p2 => hr x y H2 Q (Tp.keep (f2.tups ty1) _ _ n p1) p2 fun v H3 e p => k v H3 ((f1.trans f2).trans (Fra.same e)) (ty2.mono e) p
theorem je_tup2 (h1 : Je Γ ta d1 Γ1) (n : noL d1 = true) (h2 : Je Γ1 tb d2 Γ2) : Je Γ (tTup (tCons ta (tCons tb tNil))) (.tuple [d1, d2]) Γ2 := fun H0 σ H ty Q k =>
  h1 H0 σ H ty _ fun x H1 f1 ty1 p1 => h2 H0 σ H1 ty1 _ fun y H2 f2 ty2 p2 => ⟨Nat.le_of_lt (small1000 (show [x, y].length ≤ 1000 by simp)), fun p hp => by
    have e := same_upd (o := HO.tup [x, y]) hp
    refine k _ _ ((f1.trans f2).trans (Fra.same e)) (ty2.mono e) (tp_tuple.mpr ⟨p, _, rfl, upd_same, TpAll.cons (Tp.mono e _ _ (Tp.keep (f2.tups ty1) _ _ n p1)) (TpAll.one (Tp.mono e _ _ p2))⟩)⟩
theorem jm_asgJ (h : Je Γ te d Γ1) (n : noL d = true) : Jm Γ (tAsg te (gName i)) (Γ1.set i (some (.dat d))) True R := fun H0 σ H ty D k r =>
  h H0 σ H ty _ fun v H1 f ty1 p => k trivial _ H1 (f.trans fun a o h n f => ⟨h, f.put fun z => by cases z⟩) (ty1.put i ⟨n, p⟩ fun z => by cases z)
/-- own.append(e), where e draws -/
theorem jm_appendJ {ds : List PyData} (h : Je Γ te d Γ1) (hi0 : Γ[i]? = some (some (.own ds))) (hi : Γ1[i]? = some (some (.own ds))) (n : noL d = true) (hl : ds.length < 10000) : Jm Γ (tDrop (tBM K "list" rAppend (tVar i) (tCons te tNil))) (Γ1.set i (some (.own (ds ++ [d])))) True R := fun H0 σ H ty D k r => by
  obtain ⟨v, h1, _, l, vs0, rfl, _, h20, _⟩ := ty.at_ i _ hi0
  refine ⟨.ref l, h1, .inl ⟨rfl, _, SqL.of h20⟩, h H0 σ H ty _ fun x H1 f ty1 p => ?_⟩
  obtain ⟨v', g1, nl, l', vs, rfl, h0, h2, h3⟩ := ty1.at_ i _ hi
  have : l' = l := by rw [h1] at g1; injection g1 with g1; injection g1 with g1; injection g1 with g1; exact g1.symm
  subst this
  refine ⟨l', vs, x, rfl, rfl, h2, Nat.lt_of_lt_of_le (by rw [h3.length]; exact hl) (by decide : 10000 ≤ sizeLine), ?_⟩
  have kp := Tups.lst (o := .lst (vs ++ [x])) h2
  obtain ⟨t2, f2⟩ := ty1.write (t' := .own (ds ++ [d])) (o := .lst (vs ++ [x])) hi rfl rfl h1 (nocode_lst h2) ⟨noLs_app nl (noLs_one n), l', _, rfl, h0, upd_same, (TpAll.keep kp _ _ nl h3).snoc (Tp.keep kp _ _ n p)⟩
  exact k trivial σ _ (f.trans f2) t2
/-- own.pop(e), where e draws -/
theorem je_popAt {ds : List PyData} {m : Nat} (h : Je Γ te (.int (m : Int)) Γ1) (hi0 : Γ[i]? = some (some (.own ds))) (hi : Γ1[i]? = some (some (.own ds))) (hm : ds[m]? = some d) (ml : m < 1000) : Je Γ (tBM K "list" rPopAt (tVar i) (tCons te tNil)) d (Γ1.set i (some (.own (ds.eraseIdx m)))) := fun H0 σ H ty Q k => by
  obtain ⟨v, h1, _, l, vs0, rfl, _, h20, _⟩ := ty.at_ i _ hi0
  refine ⟨.ref l, h1, .inl ⟨rfl, _, SqL.of h20⟩, h H0 σ H ty _ fun x H1 f ty1 p => ?_⟩
  obtain ⟨v', g1, nl, l', vs, rfl, h0, h2, h3⟩ := ty1.at_ i _ hi
  have : l' = l := by rw [h1] at g1; injection g1 with g1; injection g1 with g1; injection g1 with g1; exact g1.symm
  subst this
  rw [tp_int.mp p]
  obtain ⟨y, hy, py⟩ := h3.get hm
  have nd : noL d = true := noLs_mem nl d (List.mem_of_getElem? hm)
  have nds : noLs (ds.eraseIdx m) = true := noLs_of fun z hz => noLs_mem nl z (List.mem_of_mem_eraseIdx hz)
  have lt := (List.getElem?_eq_some_iff.mp hy).1
  have kp := Tups.lst (o := .lst (vs.eraseIdx m)) h2
  refine ⟨l', vs, m, m, y, rfl, rfl, h2, by omega, by omega, ?_, hy, ?_⟩
  · have nn : ¬ ((m : Int) < 0) := by omega
    simp only [seqIndex?, if_neg nn]
    rw [if_pos (by simpa using lt), Int.toNat_natCast]
  · obtain ⟨t2, f2⟩ := ty1.write (t' := .own (ds.eraseIdx m)) (o := .lst (vs.eraseIdx m)) hi rfl rfl h1 (nocode_lst h2) ⟨nds, l', _, rfl, h0, upd_same, TpAll.keep kp _ _ nds (TpAll.erase m h3)⟩
    exact k y _ (f.trans f2) t2 (Tp.keep kp _ _ nd py)
end
end Ost
set_option Elab.async false
set_option linter.all false
set_option maxRecDepth 100000
set_option maxHeartbeats 1000000
/-! D17: the law's deck. -/
namespace Ost
open PySem PySem.Spec PyProof.Rows L2
open C8 (Cal pe_c Mak pe_mk Met pe_gc)

theorem key_ca : decide ((Sum.inr ("cells" : PySem.Str) : Key) = Sum.inr ("at" : PySem.Str)) = false := by decide +kernel
theorem key_aa : decide ((Sum.inr ("at" : PySem.Str) : Key) = Sum.inr ("at" : PySem.Str)) = true := by decide +kernel
theorem key_cc : decide ((Sum.inr ("cells" : PySem.Str) : Key) = Sum.inr ("cells" : PySem.Str)) = true := by decide +kernel
abbrev deckL (c : Addr) (n : Int) : List (Key × V) := [(Sum.inr "cells", V.ref c), (Sum.inr "at", V.int n)]
theorem deck_at {c : Addr} {n : Int} : valV (deckL c n) (Sum.inr ("at" : PySem.Str)) = some (V.int n) := by
  unfold valV deckL
  simp only [List.find?_cons, key_ca, key_aa]
  rfl
theorem deck_cells {c : Addr} {n : Int} : valV (deckL c n) (Sum.inr ("cells" : PySem.Str)) = some (V.ref c) := by
  unfold valV deckL
  simp only [List.find?_cons, key_cc]
  rfl
theorem deck_put {c : Addr} {n m : Int} : putK (deckL c n) (Sum.inr ("at" : PySem.Str)) (V.int m) = deckL c m := by
  unfold putK
  rw [if_pos (by rw [List.any_cons, List.any_cons, key_aa, Bool.true_or, Bool.or_true])]
  unfold deckL
  simp only [List.map_cons, List.map_nil]
  rw [if_neg (of_decide_eq_false key_ca), if_pos trivial]
theorem er_tabU {H : Hp} {P d : Addr} {kvs : List (Key × V)} (h : LamX.TabS (upd H d (.dK kvs)) P lamQ) : LamX.TabS (er H d) P lamQ := by
  have := er_tab (H := upd H d (.dK kvs)) upd_same h
  have e : er (upd H d (.dK kvs)) d = er H d := by
    funext b
    by_cases z : b = d
    · subst z; rw [er_self, er_self]
    · rw [er_ne z, er_ne z, upd_ne z]
  rw [e] at this
  exact this
theorem eqv_nil_ints (cs : List Int) : PyData.eqv (.list (cs.map .int)) (.list []) = decide (cs = []) := by
  cases cs with
  | nil => simp [PyData.eqv, PyData.eqvAll]
  | cons x cs => simp [PyData.eqv, PyData.eqvAll]
theorem sh_ints (cs : List Int) : SeqAt.shaped (.list (cs.map .int)) = true := (sh_lst (k := 1) fun d hd => by obtain ⟨s, _, rfl⟩ := List.mem_map.mp hd; exact sh_int s).ok (by decide)
theorem js_fin {Γ Γ' : Gm} {t : TS} {R : VT} {σ : L2.St} {H : Hp} {D : Ends} (J : Js Γ t Γ' False R) (ty : Ty Γ σ H) (k : ∀ v H', Same H H' → R.P v H' → D.rt v H') : t D σ H := J σ H ty D (fun z => z.elim) k
abbrev N__law_draw : List Str := ["_law_deck_here", "_law_below", "_law_at", "_law_cells"]
theorem sc__law_draw : FnScope N__law_draw ["_law_deck_here", "_law_below"] (defScope s__law_draw) := ⟨rfl, rfl, rfl, by decide +kernel, rfl, by decide +kernel, by decide +kernel⟩
theorem ok__law_draw {P : Program} {w : World} {K : PySem.W.Frag} {mg : Str → Option Value} {base : Heap} {C : Cn} {f : Addr} {fd : FuncData} (F : FunD K "_law_draw" "_law_draw" (defArgs s__law_draw) (defBody s__law_draw) (defScope s__law_draw) [] [] f fd) (m : mg "_law_draw" = some (.ref f)) (T : Top K mg C) : Cal P w K mg base 1 "_law_draw" (sp__law_draw C) [] := by
  refine cal_of F (F.ok sc__law_draw (fun vs H Q E h => ?_) (fun cdv A outer s H vs Q E hr h => ⟨_, PSs.nox ((pss_cons (ps_par (i := 2) (j := 3) (by rfl) sc__law_draw.nd rfl rfl (by decide) rfl rfl (pa_cons (pe_dget (hu_of hr) (pv 0) pe_str (fun _ _ => rfl)) (pa_cons (pe_dget (hu_of hr) (pv 0) pe_str (fun _ _ => rfl)) pa_nil)) (by rfl))
    (pss_cons (ps_dput (hu_of hr) (pv 0) pe_str (pe_op (o_add (K := K) rfl) (pv 2) pe_int) rfl)
    (pss_cons (ps_if (pt_cmpR op_lt (pv 2) (pe_callB (c_len (K := K) rfl) (by rfl) T.len_ boot_len (pa_cons (pv 3) pa_nil)) (nomark _)) (pss_one (ps_ret (pe_op op_mod (pe_ix (x_ix (K := K) rfl) (pv 3) (pv 2) (fun _ _ => rfl)) (pv 1)))) pss_nil)
    (pss_cons (ps_if (pt_cmpR (o_eq (K := K) rfl hr.units) (pv 3) (pe_lst pa_nil) (nomark _)) (pss_one (ps_ret (pe_op op_mod (pe_op (o_add (K := K) rfl) (pe_op op_mul (pv 2) pe_int) (pe_op op_fdiv (pv 2) pe_int)) (pv 1)))) pss_nil)
    (pss_one (ps_ret (pe_op op_mod (pe_op (o_add (K := K) rfl) (pe_op (o_add (K := K) rfl) (pe_op op_fdiv (pe_ix (x_ix (K := K) rfl) (pv 3) (pe_op op_mod (pv 2) (pe_callB (c_len (K := K) rfl) (by rfl) T.len_ boot_len (pa_cons (pv 3) pa_nil))) (fun _ _ => rfl)) (pe_op (o_add (K := K) rfl) (pv 2) pe_int)) (pe_op op_mul (pv 2) pe_int)) (pe_op op_fdiv (pv 2) pe_int)) (pv 1))))))))), ?_⟩)) m (fun _ _ _ _ _ _ us hl => match us, hl with | [_, _], _ => rfl)
  · obtain ⟨d, c, cs, n, b, rfl, _⟩ := h
    rfl
  obtain ⟨d, c, cs, n, b, rfl, h1, h2, b0, n0, n1, cl, hq⟩ := h
  have cd : c ≠ d := fun z => by rw [z, h1] at h2; cases h2
  let Γ : Gm := [none, some (dt (.int b)), some (dt (.int n)), some (dt (.list (cs.map .int)))]
  let σ2 : L2.St := [some (.ref d), some (.int b), some (.int n), some (.ref c)]
  have tyAt : ∀ H', H' c = some (.lst (cs.map V.int)) → Ty Γ σ2 H' := fun H' hc => ⟨rfl, fun i t q => by
    match i, q with
    | 0, q => cases q
    | 1, q => cases q; exact ⟨_, rfl, dt_int _⟩
    | 2, q => cases q; exact ⟨_, rfl, dt_int _⟩
    | 3, q => cases q; exact ⟨_, rfl, dt_lst hc (TpAll.ints.mpr rfl)⟩
    | i + 4, q => exact absurd (List.getElem?_eq_some_iff.mp q).1 (by show ¬ i + 4 < 4; omega)⟩
  have DG : ∀ (k : PySem.Str) (v : V), valV (deckL c n) (Sum.inr k) = some v → DGet H d (.str k) (some v) := fun k v e => .inl ⟨_, Sum.inr k, .inl h1, rfl, e.symm⟩
  refine ⟨.ref d, rfl, d, .int n, rfl, DG "at" _ deck_at, .ref d, rfl, d, .ref c, rfl, DG "cells" _ deck_cells, .int n, .ref c, rfl, ?_⟩
  show tSeq _ _ _ σ2 H
  refine jd_addI (K := K) (jd_var (i := 2) (T := dt (.int n)) rfl) (jd_int (i := 1)) σ2 H (tyAt H h2) _ fun v H1 e1 p1 => ?_
  have := of_int p1
  subst this
  have h1' : H1 d = some (.dK (deckL c n)) := e1.get h1
  have h2' : H1 c = some (.lst (cs.map V.int)) := e1.get h2
  have put := DPut.k (k := (Sum.inr ("at" : PySem.Str) : Key)) (v := .int (n + 1)) h1' (show (deckL c n).length < sizeLine by show 2 < sizeLine; decide)
  rw [deck_put] at put
  refine ⟨.ref d, rfl, d, _, rfl, put, ?_⟩
  have e2 : Same (upd H d (deckO c (n + 1))) (upd H1 d (deckO c (n + 1))) := by
    refine ⟨fun a o ha hn => ?_, fun a ps ha => ?_, fun P tb => ?_⟩
    · by_cases z : a = d
      · subst z; rw [upd_same] at ha ⊢; exact ha
      · rw [upd_ne z] at ha ⊢; exact e1.obj a o ha hn
    · by_cases z : a = d
      · subst z; rw [upd_same] at ha; cases ha
      · rw [upd_ne z] at ha ⊢; exact e1.tbl a ps ha
    · exact ((er_same (H := H1) (d := d) (o := deckO c (n + 1))).tab P (er_tab h1' (e1.tab P (er_le.tab P (er_tabU tb)))))
  have h2u : upd H1 d (deckO c (n + 1)) c = some (.lst (cs.map V.int)) := by rw [upd_ne cd]; exact h2'
  have nl : (0 : Int) ≤ cs.length := by omega
  dsimp only
  refine js_fin (Γ := Γ) (Γ' := Γ) (R := dt (.int (drawV cs n b))) ?_ (tyAt _ h2u) (fun v H3 e3 p3 => by
    rw [of_int p3]
    exact hq H3 (e2.trans e3))
  refine js_seq (js_if (C := ¬ (n < (cs.length : Int))) (Γ' := Γ) (jt_test ((jd_lt (jd_var (i := 2) rfl) (jd_lenL (jd_var (i := 3) rfl))).eq (d' := .bool (decide (n < (cs.length : Int)))) (by rw [List.length_map]))) (fun h => js_ret ((jd_mod (jd_ixL (d := .int (cs.getD n.toNat 0)) (jd_var (i := 3) rfl) (jd_var (i := 2) rfl) ?_) (jd_var (i := 1) rfl) b0).eq ?_)) (fun h => js_next (of_decide_eq_false h))) fun hn =>
    js_seq (js_if (C := cs ≠ []) (Γ' := Γ) (jt_test ((jd_eqD (jd_var (i := 3) (T := dt (.list (cs.map .int))) rfl) (jd_of_jf (jf_lst (ds := []) ja_nil (by simp))) (sh_ints cs) (sh_ints [])).eq (by rw [eqv_nil_ints]))) (fun h => js_ret ((jd_mod (jd_addI (jd_mul (jd_var (i := 2) rfl) jd_int ?_) (jd_fdiv (jd_var (i := 2) rfl) jd_int ?_)) (jd_var (i := 1) rfl) b0).eq ?_)) (fun h => js_next (of_decide_eq_false h))) fun hne =>
    js_ret ((jd_mod (jd_addI (jd_addI (jd_fdiv (jd_ixL (d := .int (cs.getD (n % cs.length).toNat 0)) (jd_var (i := 3) rfl) ((jd_mod (jd_var (i := 2) rfl) (jd_lenL (jd_var (i := 3) rfl)) ?_).eq (d' := .int (n % (cs.length : Int))) (by rw [List.length_map])) ?_) (jd_addI (jd_var (i := 2) rfl) jd_int) ?_) (jd_mul (jd_var (i := 2) rfl) jd_int ?_)) (jd_fdiv (jd_var (i := 2) rfl) jd_int ?_)) (jd_var (i := 1) rfl) b0).eq ?_)
  · have hl : n < (cs.length : Int) := of_decide_eq_true h
    have e : n = (n.toNat : Int) := by omega
    rw [e]
    refine atI_map (atI_nat ?_)
    rw [← e, List.getD_eq_getElem?_getD, List.getElem?_eq_getElem (by omega)]
    rfl
  · unfold drawV
    rw [if_pos (of_decide_eq_true h)]
  · exact .inr (by decide)
  · exact ⟨by decide, by decide⟩
  · unfold drawV
    rw [if_neg hn, if_pos (of_decide_eq_true h)]
  · have : cs.length ≠ 0 := fun z => hne (List.length_eq_zero_iff.mp z)
    rw [List.length_map]
    omega
  · have : cs.length ≠ 0 := fun z => hne (List.length_eq_zero_iff.mp z)
    have h1 := Int.emod_nonneg n (show (cs.length : Int) ≠ 0 by omega)
    have h2 := Int.emod_lt_of_pos n (show (0 : Int) < cs.length by omega)
    have e : n % (cs.length : Int) = ((n % (cs.length : Int)).toNat : Int) := by omega
    rw [e]
    refine atI_map (atI_nat ?_)
    rw [← e, List.getD_eq_getElem?_getD, List.getElem?_eq_getElem (by omega)]
    rfl
  · exact ⟨by omega, by omega⟩
  · exact .inr (by decide)
  · exact ⟨by decide, by decide⟩
  · unfold drawV
    rw [if_neg hn, if_neg hne]
end Ost
set_option Elab.async false
set_option linter.all false
set_option maxRecDepth 100000
set_option maxHeartbeats 1000000
/-! D18: the law's orders. -/
namespace Ost
open PySem PySem.Spec PyProof.Rows L2
open C8 (Cal pe_c Mak pe_mk Met pe_gc)

theorem ji_enumL {α : Type} {Γ : Gm} {K : PySem.W.Frag} {te : TE} {xs : List α} {D : α → PyData} (h : Jd Γ te (dt (.list (xs.map D)))) : Ji Γ (iEnumA K (tCons te tNil)) xs.zipIdx fun p => dt (.tuple [.int (p.2 : Int), D p.1]) := fun σ H ty R k => by
  refine .inl (h σ H ty _ fun v H1 e1 p => ?_)
  obtain ⟨a, us, rfl, h1, h2⟩ := of_lst p
  have hlen : us.length = xs.zipIdx.length := by rw [h2.length, List.length_map, List.length_zipIdx]
  refine ⟨a, us, rfl, SqL.of h1, k (Ite K a) H1 (fun H => H a = some (.lst us)) (YPair (fun i => some (.int (i : Nat))) (fun i => us[i]?)) e1 (hlen ▸ walk_enum.mono (fun H z => SqL.of z) fun i H x H' _ _ y => y) h1 (fun Ha Hb e z => e.get z) fun i Ha x Hb e z hi y => ?_⟩
  obtain ⟨t, u, y, rfl, hn, rfl, hu, hy⟩ := y
  cases hu
  obtain ⟨d, hd, pd⟩ := h2.got hy
  obtain ⟨b, hb, rfl⟩ := map_at hd
  have sm : Same Ha (upd Ha t (.tup [.int (i : Nat), y])) := same_upd hn
  exact ⟨(b, i), by rw [List.getElem?_zipIdx, hb]; simp, sm, tp_tuple.mpr ⟨t, _, rfl, upd_same, TpAll.cons (tp_int.mpr rfl) (TpAll.one (Tp.mono (e.trans sm) _ _ pd))⟩⟩
theorem same_deck {H H' : Hp} {d : Addr} {ks : List (Key × V)} (e : Same (er H d) H') (h : H' d = some (.dK ks)) : Same (upd H d (.dK ks)) H' := by
  refine ⟨fun a o ha hn => ?_, fun a ps ha => ?_, fun P tb => e.tab P (er_tabU tb)⟩
  · by_cases z : a = d
    · subst z; rw [upd_same] at ha; rw [h]; exact ha
    · rw [upd_ne z] at ha; exact e.obj a o (by rw [er_ne z]; exact ha) hn
  · by_cases z : a = d
    · subst z; rw [upd_same] at ha; cases ha
    · rw [upd_ne z] at ha; exact e.tbl a ps (by rw [er_ne z]; exact ha)
theorem tym_cons {H0 H : Hp} {Γ : Mm} {σ : L2.St} {t : MT} {v : V} (h : TyM H0 Γ σ H) (p : t.P H0 v H) (no : ∀ (i : Nat) (s : MT), Γ[i]? = some (some s) → s.isOwn = false) : TyM H0 (some t :: Γ) (some v :: σ) H := by
  refine ⟨h.same, by rw [List.length_cons, List.length_cons, h.len], fun i s q => ?_, fun i j s u x hij hi hj so uo => ?_⟩
  · cases i with
    | zero => cases q; exact ⟨v, rfl, p⟩
    | succ i => exact h.at_ i s q
  · cases i with
    | zero =>
      cases j with
      | zero => exact absurd rfl hij
      | succ j => rw [no j u hj] at uo; cases uo
    | succ i => rw [no i s hi] at so; cases so
theorem map_erase {α β : Type} {f : α → β} : ∀ (l : List α) (n : Nat), (l.map f).eraseIdx n = (l.eraseIdx n).map f
  | [], n => rfl
  | x :: l, 0 => rfl
  | x :: l, n + 1 => by
    show f x :: (l.map f).eraseIdx n = f x :: (l.eraseIdx n).map f
    rw [map_erase l n]
theorem args_no {ts : List VT} {n : Nat} : ∀ (i : Nat) (s : MT), (ts.map (fun t => some (MT.arg t)) ++ List.replicate n none)[i]? = some (some s) → s.isOwn = false := by
  intro i s q
  have := List.mem_of_getElem? q
  rcases List.mem_append.mp this with h | h
  · obtain ⟨t, _, e⟩ := List.mem_map.mp h
    cases e
    rfl
  · have := List.eq_of_mem_replicate h
    cases this

/-! ### the plain function -/
def mineOf (sides : List Int) (i : Nat) : List Int := (sides.zipIdx.filter fun p => decide (p.1 = (i : Int))).map fun p => (p.2 : Int)
def pickL (cs : List Int) : Nat → Int → List Int → List Int
  | 0, _, _ => []
  | f + 1, n, mine => mine.getD (drawV cs n mine.length).toNat 0 :: pickL cs f (n + 1) (mine.eraseIdx (drawV cs n mine.length).toNat)
def rowsV (cs sides : List Int) (n : Int) : Nat → List (List Int) × Int
  | 0 => ([], n)
  | i + 1 => ((rowsV cs sides n i).1 ++ [pickL cs (mineOf sides i).length (rowsV cs sides n i).2 (mineOf sides i)], (rowsV cs sides n i).2 + (mineOf sides i).length)
theorem mineOf_len (sides : List Int) (i : Nat) : (mineOf sides i).length ≤ sides.length := by
  unfold mineOf
  rw [List.length_map]
  have := List.length_filter_le (fun p : Int × Nat => decide (p.1 = (i : Int))) sides.zipIdx
  rw [List.length_zipIdx] at this
  exact this
theorem rowsV_len (cs sides : List Int) (n : Int) : ∀ i, (rowsV cs sides n i).1.length = i
  | 0 => rfl
  | i + 1 => by show ((rowsV cs sides n i).1 ++ [_]).length = i + 1; rw [List.length_append, rowsV_len cs sides n i]; rfl
theorem rowsV_at {cs sides : List Int} {n : Int} (hs : sides.length ≤ 6) : ∀ i, n ≤ (rowsV cs sides n i).2 ∧ (rowsV cs sides n i).2 ≤ n + 6 * i
  | 0 => ⟨Int.le_refl _, by show n ≤ n + 6 * ((0 : Nat) : Int); omega⟩
  | i + 1 => by
    obtain ⟨h1, h2⟩ := rowsV_at (cs := cs) (n := n) hs i
    have := mineOf_len sides i
    show n ≤ (rowsV cs sides n i).2 + ((mineOf sides i).length : Int) ∧ (rowsV cs sides n i).2 + ((mineOf sides i).length : Int) ≤ n + 6 * ((i + 1 : Nat) : Int)
    omega

def sp__law_orders (C : Cn) : Sp := fun vs H Q _ => ∃ (d c : Addr) (cs : List Int) (n : Int) (sides : List Int) (m : Nat) (v : V), vs = [.ref d, v, .int m] ∧ H d = some (deckO c n) ∧ H c = some (.lst (cs.map V.int)) ∧ cs.length ≤ 60 ∧ (dt (.list (sides.map .int))).P v H ∧ sides.length ≤ 6 ∧ m ≤ 10 ∧ 0 ≤ n ∧ n ≤ 900 ∧
  ∀ u H', Same (upd H d (deckO c (rowsV cs sides n m).2)) H' → (dt (setsD (rowsV cs sides n m).1)).P u H' → Q u H'
abbrev N__law_orders : List Str := ["_law_deck_here", "_law_sides", "_law_many", "_law_found", "_law_person", "_law_mine", "_law_row", "_law_x", "_law_side"]
theorem sc__law_orders : FnScope N__law_orders ["_law_deck_here", "_law_sides", "_law_many"] (defScope s__law_orders) := ⟨rfl, rfl, rfl, by decide +kernel, rfl, by decide +kernel, by decide +kernel⟩
theorem ok__law_orders {P : Program} {w : World} {K : PySem.W.Frag} {mg : Str → Option Value} {base : Heap} {C : Cn} {f : Addr} {fd : FuncData} (F : FunD K "_law_orders" "_law_orders" (defArgs s__law_orders) (defBody s__law_orders) (defScope s__law_orders) [] [] f fd) (m : mg "_law_orders" = some (.ref f)) (T : Top K mg C) (c__law_draw : Cal P w K mg base 1 "_law_draw" (sp__law_draw C) []) : Cal P w K mg base 2 "_law_orders" (sp__law_orders C) [] := by
  refine cal_of F (F.ok sc__law_orders (fun vs H Q E h => ?_) (fun cdv A outer s H vs Q E hr h => ⟨_, PSs.nox ((pss_cons (ps_set (i := 3) sc__law_orders.nd rfl (Or.inl rfl) (pe_lst pa_nil))
    (pss_cons (ps_for PassesOwn.never rfl (pi_range1 (by rfl) T.range_ (pa_cons (pv 2) pa_nil)) (pg_name (i := 4) sc__law_orders.nd rfl (Or.inr rfl)) (pss_cons (ps_par (i := 5) (j := 6) (by rfl) sc__law_orders.nd rfl rfl (by decide) rfl rfl (pa_cons (pe_lc (own := [("_law_x", 7), ("_law_side", 8)]) rfl sc__law_orders.nd (pi_enumA (K := K) rfl (by rfl) T.enumerate_ (pa_cons (pv 1) pa_nil)) (blkOk_by (own := [("_law_x", 7), ("_law_side", 8)]) (N := N__law_orders) (sc := defScope s__law_orders) (by decide +kernel)) (fun _ _ _ _ _ => (g_tup (K := K) (n := 2) rfl (by rfl) (pgs_cons (pg_name (i := 7) sc__law_orders.nd rfl (Or.inl rfl)) (pgs_cons (pg_name (i := 8) sc__law_orders.nd rfl (Or.inl rfl)) pgs_nil)))) (fun _ _ _ _ _ => pts_one (pt_cmpR (o_eq (K := K) rfl hr.units) (pv 8) (pv 4) (nomark _))) (fun _ _ _ _ _ => (pv 7))) (pa_cons (pe_lst pa_nil) pa_nil)) (by rfl))
    (pss_cons (ps_while PassesOwn.never (pt_cmpR (o_ne (K := K) rfl hr.units) (pv 5) (pe_lst pa_nil) (nomark _)) (pss_one (ps_expr (pe_bm PySem.F.plainAttrs_list PySem.F.slot_list_append PySem.F.type_list_append mt_append (pv 6) (pa_cons (pe_bm PySem.F.plainAttrs_list PySem.F.slot_list_pop PySem.F.type_list_pop mt_popAt (pv 5) (pa_cons (pe_c c__law_draw hr (by decide) (by rfl) (pa_cons (pv 0) (pa_cons (pe_callB (c_len (K := K) rfl) (by rfl) T.len_ boot_len (pa_cons (pv 5) pa_nil)) pa_nil))) pa_nil)) pa_nil)))))
    (pss_one (ps_expr (pe_bm PySem.F.plainAttrs_list PySem.F.slot_list_append PySem.F.type_list_append mt_append (pv 3) (pa_cons (pe_callTy (c_tup (K := K) rfl) (by rfl) T.tuple_ boot_tuple (pa_cons (pv 6) pa_nil)) pa_nil)))))))
    (pss_one (ps_ret (pe_callTy (c_tup (K := K) rfl) (by rfl) T.tuple_ boot_tuple (pa_cons (pv 3) pa_nil))))))), ?_⟩)) m (fun _ _ _ _ _ _ us hl => match us, hl with | [_, _, _], _ => rfl)
  · obtain ⟨d, c, cs, n, sides, m, v, rfl, _⟩ := h
    rfl
  obtain ⟨d, c, cs, n, sides, mm, v, rfl, h1, h2, cl, pv, sl, ml, n0, n9, hq⟩ := h
  have cd : c ≠ d := fun z => by rw [z, h1] at h2; cases h2
  let R_ : Nat → List (List Int) × Int := rowsV cs sides n
  let G_ : Nat → Mm := fun i => [some (.dek d c cs (R_ i).2), some (.arg (dt (.list (sides.map .int)))), some (.arg (dt (.int mm))), some (.own ((R_ i).1.map sD)), none, none, none, none, none]
  have ty0 : TyM (er H d) [some (.dek d c cs n), some (.arg (dt (.list (sides.map .int)))), some (.arg (dt (.int mm))), none, none, none, none, none, none] (L2.start N__law_orders [.ref d, v, .int mm]) H :=
    tym_cons (t := .dek d c cs n) ((jm_args (ts := [dt (.list (sides.map .int)), dt (.int mm)]) (vs := [v, .int mm]) (H := er H d) ⟨dk_dt _ _ _ _ _ h1 pv, dt_int _, trivial⟩ 6).mono er_le) ⟨rfl, er_self, h1, by rw [er_ne cd]; exact h2⟩ (args_no (ts := [dt (.list (sides.map .int)), dt (.int mm)]) (n := 6))
  refine Jm.step (Γ1 := G_ 0) (C1 := True) (jm_new (ds := []) (jf_lst ja_nil (by simp)) rfl) ty0 fun _ σ1 H1 f1 ty1 => Jm.step (Γ1 := G_ mm) (C1 := True) (jm_forR (hi := mm) (bd := fun i Γ => Γ.set 4 (some (.dat (.int i)))) (Γs := G_) (C := fun _ => True) (ja_cons (jd_var (i := 2) rfl) ja_nil) (by omega) (by omega) (tm_name 4) trivial fun i hi _ => ?_) ty1 fun _ σ2 H2 f2 ty2 => ?_
  · let mine := mineOf sides i
    let k0 := (R_ i).2
    have mlen : mine.length ≤ 6 := Nat.le_trans (mineOf_len sides i) sl
    have kb : n ≤ k0 ∧ k0 ≤ n + 6 * i := rowsV_at sl i
    let Γw : List Int × List Int × Int → Mm := fun x => [some (.dek d c cs x.2.2), some (.arg (dt (.list (sides.map .int)))), some (.arg (dt (.int mm))), some (.own ((R_ i).1.map sD)), some (.dat (.int i)), some (.own (x.1.map .int)), some (.own (x.2.1.map .int)), none, none]
    let full := pickL cs mine.length k0 mine
    refine jm_seq (Γ1 := Γw (mine, [], k0)) (C1 := True) (jm_par2 (i := 5) (j := 6) (t1 := .own (mine.map .int)) (t2 := .own []) (mv_own (Jf.eq (jf_lc (xs := sides.zipIdx) (Y := fun p => dt (.tuple [.int (p.2 : Int), .int p.1])) (bind := fun p Γ => (Γ.set 7 (some (dt (.int (p.2 : Int))))).set 8 (some (dt (.int p.1)))) (p := fun p => decide (p.1 = (i : Int))) (q := fun p => .int (p.2 : Int)) (ji_enumL (D := PyData.int) (jd_var (i := 1) rfl)) (tg_pair (A := fun p : Int × Nat => .int (p.2 : Int)) (B := fun p => .int p.1) 7 8) (fun p hp => jt_test (jd_eqInt (jd_var (i := 8) rfl) (jd_var (i := 4) rfl))) (fun p hp _ => jd_var (i := 7) rfl) (by rw [List.length_zipIdx]; omega) (fun _ _ _ => noL_int _)) ?_) ?_) (mv_own (jf_lst ja_nil (by simp)) rfl)) fun _ =>
      jm_seq (Γ1 := Γw ([], full, k0 + mine.length)) (C1 := True) (jm_while (Γs := Γw) (P := fun x => x.2.1 ++ pickL cs x.1.length x.2.2 x.1 = full ∧ x.2.2 + x.1.length = k0 + mine.length ∧ k0 ≤ x.2.2 ∧ x.1.length ≤ 6 ∧ x.2.1.length + x.1.length ≤ 6) (μ := fun x => x.1.length) (Cf := fun x => x.1 = []) (mine, [], k0) ⟨rfl, rfl, Int.le_refl _, mlen, by show 0 + mine.length ≤ 6; omega⟩ (fun x px => ?_) (fun x px cx => ?_)) fun _ =>
      Jm.imp (jm_append (ds := (R_ i).1.map sD) (d := sD full) (i := 3) rfl (jd_tupOf (jd_var (i := 6) rfl)) (noL_sD _) (by rw [List.length_map, show (R_ i).1.length = i from rowsV_len cs sides n i]; omega)) (fun _ => trivial) ⟨rfl, rfl, rfl, ?_, trivial⟩
    · show _ = mine.map PyData.int
      unfold mine mineOf
      rw [List.map_map]
      rfl
    · exact noLs_of fun d hd => by obtain ⟨x, _, rfl⟩ := List.mem_map.mp hd; exact noL_int _
    · obtain ⟨rem, row, k⟩ := x
      obtain ⟨q1, q2, q3, q4, q5⟩ := px
      refine ⟨!decide (rem = []), jt_test ((jd_neD (jd_var (i := 5) (T := dt (.list (rem.map .int))) rfl) (jd_of_jf (jf_lst (ds := []) ja_nil (by simp))) (sh_ints rem) (sh_ints [])).eq (by rw [eqv_nil_ints])), fun hb => ?_, fun hb => by simpa using hb⟩
      have ne : rem.length ≠ 0 := fun z => by rw [List.length_eq_zero_iff.mp z] at hb; cases hb
      have ne : rem.length ≠ 0 := ne
      have q2 : k + (rem.length : Int) = k0 + (mine.length : Int) := q2
      have q4 : rem.length ≤ 6 := q4
      have q5 : row.length + rem.length ≤ 6 := q5
      have q3 : k0 ≤ k := q3
      have b0 : (0 : Int) < rem.length := by omega
      have z0 := drawV_0 (cs := cs) (n := k) b0
      have z1 := drawV_lt (cs := cs) (n := k) b0
      let q := (drawV cs k rem.length).toNat
      have lq : q < rem.length := by show (drawV cs k rem.length).toNat < rem.length; omega
      have eq : drawV cs k rem.length = (q : Int) := by show _ = ((drawV cs k rem.length).toNat : Int); omega
      obtain ⟨g, hg⟩ : ∃ g, rem.length = g + 1 := ⟨rem.length - 1, by omega⟩
      have le : (rem.eraseIdx q).length = g := by rw [List.length_eraseIdx_of_lt lq]; omega
      refine ⟨(rem.eraseIdx q, row ++ [rem.getD q 0], k + 1), ⟨?_, ?_, ?_, ?_, ?_⟩, ?_, ?_⟩
      · show (row ++ [rem.getD q 0]) ++ pickL cs (rem.eraseIdx q).length (k + 1) (rem.eraseIdx q) = full
        rw [← q1, List.append_assoc, le]
        show row ++ _ = row ++ pickL cs rem.length k rem
        have : pickL cs rem.length k rem = rem.getD q 0 :: pickL cs g (k + 1) (rem.eraseIdx q) := by
          conv => lhs; rw [hg]
          rfl
        rw [this]
        rfl
      · show k + 1 + ((rem.eraseIdx q).length : Int) = _
        rw [le]
        omega
      · show k0 ≤ k + 1
        omega
      · show (rem.eraseIdx q).length ≤ 6
        omega
      · show (row ++ [rem.getD q 0]).length + (rem.eraseIdx q).length ≤ 6
        rw [le, List.length_append, List.length_singleton]
        omega
      · show (rem.eraseIdx q).length < rem.length
        omega
      · refine Jm.imp (jm_appendJ (i := 6) (ds := row.map .int) (d := .int (rem.getD q 0)) (je_popAt (i := 5) (ds := rem.map .int) (m := q) (Je.eq (je_draw (C := C) (i := 0) (b := rem.length) rfl ((jd_lenL (jd_var (i := 5) (T := dt (.list (rem.map .int))) rfl)).eq (d' := .int (rem.length : Int)) (by rw [List.length_map])) b0 (by omega) (by omega) cl) (by rw [eq])) rfl rfl ?_ (by omega)) rfl rfl (noL_int _) (by rw [List.length_map]; omega)) (fun _ => trivial) ⟨rfl, rfl, rfl, rfl, rfl, ?_, ?_, trivial⟩
        · rw [List.getElem?_map, List.getElem?_eq_getElem lq, List.getD_eq_getElem?_getD, List.getElem?_eq_getElem lq]
          rfl
        · show some (MT.own ((rem.map PyData.int).eraseIdx q)) = some (MT.own ((rem.eraseIdx q).map .int))
          rw [map_erase]
        · show some (MT.own (row.map PyData.int ++ [.int (rem.getD q 0)])) = some (MT.own ((row ++ [rem.getD q 0]).map .int))
          rw [List.map_append]
          rfl
    · obtain ⟨rem, row, k⟩ := x
      have cx : rem = [] := cx
      subst cx
      obtain ⟨q1, q2, _⟩ := px
      have e1 : row = full := by have : row ++ [] = full := q1; rw [List.append_nil] at this; exact this
      have e2 : k = k0 + mine.length := by have : k + ((0 : Nat) : Int) = k0 + mine.length := q2; omega
      subst e1
      subst e2
      exact ⟨trivial, rfl, rfl, rfl, rfl, rfl, rfl, rfl, trivial⟩
    · show some (MT.own ((R_ i).1.map sD ++ [sD full])) = some (MT.own ((R_ (i + 1)).1.map sD))
      show _ = some (MT.own (((R_ i).1 ++ [full]).map sD))
      rw [List.map_append]
      rfl
  · obtain ⟨_, _, rfl, _, hd2, _⟩ := ty2.at_ 0 _ rfl
    refine (jd_tupOf (K := K) (jd_var (i := 3) (T := dt (.list ((R_ mm).1.map sD))) rfl)) σ2 H2 ty2.ty _ fun u H3 e3 p3 => hq u H3 (same_deck (ty2.same.trans e3) (e3.get hd2)) p3
end Ost
set_option Elab.async false
set_option linter.all false
set_option maxRecDepth 100000
set_option maxHeartbeats 1000000
/-! D19: the law's deck is laid. -/
namespace Ost
open PySem PySem.Spec PyProof.Rows L2
open C8 (Cal pe_c Mak pe_mk Met pe_gc)

def deckCs (ss : List Int) : List Int := (ss.take 60).map fun x => x % 1000000007
/-- the script: a list of ints, wherever it stands -/
def scrT (K : PySem.W.Frag) (ss : List Int) : VT := ⟨fun v H => ∃ a, v = .ref a ∧ SqL K H a (ss.map V.int), fun e h => by
  obtain ⟨a, h1, h2⟩ := h
  exact ⟨a, h1, h2.imp (fun r => r.elim (fun z => .inl (e.get z)) fun ⟨o, z⟩ => .inr ⟨o, e.get z⟩) id⟩⟩
theorem jf_slScr {Γ : Gm} {K : PySem.W.Frag} {tl te : TE} {ss : List Int} {j : Nat} (h : Jd Γ tl (scrT K ss)) (h2 : Jd Γ te (dt (.int (j : Nat)))) : Jf Γ (tSl (rSlL K) tl tNoPart (tPart te)) ((ss.take j).map .int) := fun σ H ty Q k => h σ H ty _ fun x H1 e1 p1 => h2 σ H1 (ty.mono e1) _ fun y H2 e2 p2 => by
  have := of_int p2
  subst this
  obtain ⟨l, rfl, q2⟩ := (scrT K ss).mono e2 p1
  refine ⟨_, rfl, l, ss.map V.int, rfl, q2, fun p hp => ?_⟩
  have cut : cutV (ss.map V.int) none (some (j : Int)) = (ss.take j).map V.int := by
    unfold cutV
    rw [HT.sIx_none, HT.sIx_nat, List.drop_zero, Nat.sub_zero, List.map_take]
    by_cases c : j ≤ (ss.map V.int).length
    · rw [Nat.min_eq_left c]
    · rw [Nat.min_eq_right (by omega), List.take_of_length_le (Nat.le_refl _), List.take_of_length_le (by omega)]
  rw [cut]
  exact k p _ _ ((e1.trans e2).trans (same_upd hp)) ((e1.trans e2).free hp) upd_same (TpAll.ints.mpr rfl)
def sp__law_deck (K : PySem.W.Frag) (C : Cn) : Sp := fun vs H Q _ => ∃ (v : V) (ss : List Int), vs = [v] ∧ (scrT K ss).P v H ∧ ss.length ≤ 63 ∧
  ∀ d c H', Same H H' → H d = none → H' d = some (deckO c 0) → H' c = some (.lst ((deckCs ss).map V.int)) → Q (.ref d) H'
abbrev rInt1 : List V → Hp → VK → Prop := fun xs H Q => (∃ i, xs = [.int i] ∧ Q (.int i) H) ∨ ∃ k, xs = [.bl k] ∧ Q (.int (if k then 1 else 0)) H
theorem jd_intOf {Γ : Gm} {te : TE} {i : Int} (h : Jd Γ te (dt (.int i))) : Jd Γ (tCB rInt1 (tCons te tNil)) (dt (.int i)) := jd_cb (ja_cons h ja_nil) fun vs H Q p k => by
  obtain ⟨v, rfl, pv⟩ := fits1 p
  have := of_int pv
  subst this
  exact .inl ⟨i, rfl, k _ H (Same.refl H) (dt_int _)⟩
theorem tc_at (v : V) (σ : L2.St) (H : Hp) (Q : VK) : tC v σ H Q = Q v H := rfl
theorem merge_deck {c : Addr} {n : Int} : mergeK [] (deckL c n) = deckL c n := by
  unfold mergeK deckL
  simp only [List.foldl_cons, List.foldl_nil]
  unfold putK
  simp only [List.any_nil, List.any_cons, Bool.false_eq_true, if_false, List.nil_append, key_ca, Bool.or_false]
  rfl
abbrev N__law_deck : List Str := ["_law_script", "_law_cell"]
theorem sc__law_deck : FnScope N__law_deck ["_law_script"] (defScope s__law_deck) := ⟨rfl, rfl, rfl, by decide +kernel, rfl, by decide +kernel, by decide +kernel⟩
theorem ok__law_deck {P : Program} {w : World} {K : PySem.W.Frag} {mg : Str → Option Value} {base : Heap} {C : Cn} {f : Addr} {fd : FuncData} (F : FunD K "_law_deck" "_law_deck" (defArgs s__law_deck) (defBody s__law_deck) (defScope s__law_deck) [] [] f fd) (m : mg "_law_deck" = some (.ref f)) (T : Top K mg C) : Cal P w K mg base 1 "_law_deck" (sp__law_deck K C) [] := by
  refine cal_of F (F.ok sc__law_deck (fun vs H Q E h => ?_) (fun cdv A outer s H vs Q E hr h => ⟨_, PSs.nox ((pss_one (ps_ret (pe_disp (pps_cons pe_str (pe_lc (own := [("_law_cell", 1)]) rfl sc__law_deck.nd (i_seq (K := K) rfl (pe_slice (s_lst (K := K) rfl) (pv 0) po_none (po_some pe_int))) (blkOk_by (own := [("_law_cell", 1)]) (N := N__law_deck) (sc := defScope s__law_deck) (by decide +kernel)) (fun _ _ _ _ _ => (pg_name (i := 1) sc__law_deck.nd rfl (Or.inl rfl))) (fun _ _ _ _ _ => pts_nil) (fun _ _ _ _ _ => (pe_op op_mod (pe_callTy call_int1 (by rfl) T.int_ boot_int (pa_cons (pv 1) pa_nil)) pe_int))) (pps_cons pe_str pe_int pps_nil)) (by rfl) (by rfl) (fun z => by cases z) (by decide))))), ?_⟩)) m (fun _ _ _ _ _ _ us hl => match us, hl with | [_], _ => rfl)
  · obtain ⟨v, ss, rfl, _⟩ := h
    rfl
  obtain ⟨v, ss, rfl, pv, sl, hq⟩ := h
  refine fun p hp => ?_
  have e0 : Same H (upd H p (.dK [])) := same_upd hp
  have ty : Ty [some (scrT K ss), none] (L2.start N__law_deck [v]) (upd H p (.dK [])) := (ty_fits (ts := [scrT K ss]) (vs := [v]) ⟨pv, trivial⟩ 1).mono e0
  have s60 : ∀ {Γ : Gm}, Γ[0]? = some (some (scrT K ss)) → Jd Γ (tSl (rSlL K) (tVar 0) tNoPart (tPart (tC (.int 60)))) (dt (.list ((ss.take 60).map .int))) := fun {Γ} e => jd_of_jf (jf_slScr (j := 60) (jd_var e) (jd_int (i := 60)))
  unfold tPairs
  rw [tc_at]
  refine (Jf.eq (jf_lc (Γ := [some (scrT K ss), none]) (xs := ss.take 60) (Y := fun x => dt (.int x)) (bind := fun x Γ => Γ.set 1 (some (dt (.int x)))) (p := fun _ => true) (q := fun x => .int (x % 1000000007)) (ji_lst (D := PyData.int) (s60 rfl)) (tg_name 1) (fun x hx => jt_yes) (fun x hx _ => jd_mod (jd_intOf (jd_var (i := 1) rfl)) jd_int (by decide)) (by rw [List.length_take]; omega) (fun _ _ _ => noL_int _)) (es := (deckCs ss).map .int) ?_) _ _ ty _ fun l us H2 e2 hl h2 hp2 => ?_
  · rw [List.filter_eq_self.mpr (fun _ _ => rfl)]
    unfold deckCs
    rw [List.map_map]
    rfl
  · have hp3 : H2 p = some (.dK []) := e2.get upd_same
    have lp : l ≠ p := fun z => by rw [z, hp3] at h2; cases h2
    refine ⟨hp3, deckL l 0, rfl, by show 2 ≤ 15; decide, ?_⟩
    rw [merge_deck]
    have e3 : Same H H2 := e0.trans e2
    refine hq p l _ (same_mut e3 hp (nocode_dK hp3)) hp upd_same ?_
    rw [upd_ne lp, h2]
    rw [TpAll.ints.mp hp2]
end Ost
set_option Elab.async false
set_option linter.all false
set_option maxRecDepth 100000
set_option maxHeartbeats 1000000
/-! K16: dicts of plain keys whose values are typed; more ways to set names. -/
namespace Ost
open PySem PySem.Spec PyProof.Rows L2
open C8 (Cal pe_c Mak pe_mk Met pe_gc)
def strT (m : List (PySem.Str × VT)) : VT := ⟨fun v H => ∃ l kvs, v = .ref l ∧ H l = some (.dK kvs) ∧ ∀ p ∈ m, ∃ u, valV kvs (Sum.inr p.1) = some u ∧ p.2.P u H, fun e h => by
  obtain ⟨l, kvs, h1, h2, h3⟩ := h
  exact ⟨l, kvs, h1, e.get h2, fun p hp => by obtain ⟨u, a, b⟩ := h3 p hp; exact ⟨u, a, p.2.mono e b⟩⟩⟩
section
variable {Γ : Gm} {ta tb tc te : TE} {K : PySem.W.Frag} {R T1 T2 T3 : VT} {i j l : Nat} {d1 d2 : PyData}
theorem jd_sget {m : List (PySem.Str × VT)} {k : PySem.Str} {t : VT} (h : Jd Γ ta (strT m)) (hk : (k, t) ∈ m) : Jd Γ (tDGet ta (tC (.str k))) t := fun σ H ty Q q =>
  h σ H ty _ fun x H1 e1 p1 => by
    obtain ⟨a, kvs, rfl, h1, h2⟩ := p1
    obtain ⟨u, g1, g2⟩ := h2 _ hk
    exact ⟨a, u, rfl, .inl ⟨kvs, Sum.inr k, .inl h1, rfl, g1.symm⟩, q u H1 e1 g2⟩
theorem js_par2 (h1 : Jd Γ ta T1) (h2 : Jd Γ tb T2) : Js Γ (tPar i j (tCons ta (tCons tb tNil))) ((Γ.set i (some T1)).set j (some T2)) True R := fun σ H ty D k r =>
  h1 σ H ty _ fun x H1 e1 p1 => h2 σ H1 (ty.mono e1) _ fun y H2 e2 p2 => ⟨x, y, rfl, k trivial _ H2 (e1.trans e2) ((((ty.mono e1).mono e2).set i (T1.mono e2 p1)).set j p2)⟩
theorem js_tup2 (h : Jd Γ te (tupV [T1, T2])) : Js Γ (tAsg te (gTup K 2 (gCons (gName i) (gCons (gName j) gNil)))) ((Γ.set i (some T1)).set j (some T2)) True R := fun σ H ty D k r =>
  h σ H ty _ fun v H1 e1 p1 => by
    obtain ⟨a, vs, rfl, h1, h2⟩ := p1
    obtain ⟨x, y, rfl, p1, p2⟩ := fits2 h2
    exact ⟨a, _, rfl, SqT.of h1, rfl, x, [y], rfl, y, [], rfl, rfl, k trivial _ H1 e1 (((ty.mono e1).set i p1).set j p2)⟩
theorem fits3 {t u w : VT} {H : Hp} : ∀ {vs : List V}, Fits [t, u, w] vs H → ∃ a b c, vs = [a, b, c] ∧ t.P a H ∧ u.P b H ∧ w.P c H
  | [], h => h.elim
  | [_], h => h.2.elim
  | [_, _], h => h.2.2.elim
  | [a, b, c], h => ⟨a, b, c, rfl, h.1, h.2.1, h.2.2.1⟩
  | _ :: _ :: _ :: _ :: _, h => h.2.2.2.elim
theorem js_tup3 (h : Jd Γ te (tupV [T1, T2, T3])) : Js Γ (tAsg te (gTup K 3 (gCons (gName i) (gCons (gName j) (gCons (gName l) gNil))))) (((Γ.set i (some T1)).set j (some T2)).set l (some T3)) True R := fun σ H ty D k r =>
  h σ H ty _ fun v H1 e1 p1 => by
    obtain ⟨a, vs, rfl, h1, h2⟩ := p1
    obtain ⟨x, y, z, rfl, p1, p2, p3⟩ := fits3 h2
    exact ⟨a, _, rfl, SqT.of h1, rfl, x, [y, z], rfl, y, [z], rfl, z, [], rfl, rfl, k trivial _ H1 e1 ((((ty.mono e1).set i p1).set j p2).set l p3)⟩
end
theorem eqvAll_sets : ∀ (L M : List (List Int)), PyData.eqvAll (L.map sD) (M.map sD) = decide (L = M)
  | [], [] => by simp [PyData.eqvAll]
  | [], _ :: _ => by simp [PyData.eqvAll]
  | _ :: _, [] => by simp [PyData.eqvAll]
  | s :: L, t :: M => by
    rw [List.map_cons, List.map_cons, PyData.eqvAll, eqv_sD, eqvAll_sets L M]
    by_cases e : s = t <;> by_cases f : L = M <;> simp [e, f]
theorem eqv_setsD (L M : List (List Int)) : PyData.eqv (setsD L) (setsD M) = decide (L = M) := by
  unfold setsD
  rw [PyData.eqv, eqvAll_sets]
theorem sh_setsD (L : List (List Int)) : SeqAt.shaped (setsD L) = true := (sh_tup (k := 1) fun d hd => by obtain ⟨s, _, rfl⟩ := List.mem_map.mp hd; exact sh_sD s).ok (by decide)
theorem sh_chainD (os : List Int) : SeqAt.shaped (chainD os) = true := (sh_tup (k := 1) fun d hd => by
  simp only [List.mem_cons, List.not_mem_nil, or_false] at hd
  rcases hd with rfl | rfl
  · exact sh_str _ (by decide +kernel)
  · exact sh_sD _).ok (by decide)
theorem eqv_chainD (os : List Int) : PyData.eqv (chainD os) (chainD os) = true := by
  unfold chainD
  simp [PyData.eqv, PyData.eqvAll, eqv_sD, eqv_ints]
theorem sh_bool1 (b : Bool) : SeqAt.shaped (.bool b) = true := (sh_bool (k := 1) b).ok (by decide)
end Ost
set_option Elab.async false
set_option linter.all false
set_option maxRecDepth 100000
set_option maxHeartbeats 1000000
/-! D20: presses from a part, as all functions tell it. -/
namespace Ost
open PySem PySem.Spec PyProof.Rows L2
open C8 (Cal pe_c Mak pe_mk Met pe_gc)

abbrev wL (C : Cn) (a b : Ch) (st : List Int) : List (PySem.Str × VT) := [("near", cho C a), ("far", cho C b), ("standing", dt (sD st)), ("settled", dt (setsD (settledL a b st)))]
def wT (C : Cn) (a b : Ch) (st : List Int) : VT := strT (wL C a b st)
section
variable {Γ : Gm} {ta : TE} {C : Cn} {a b : Ch} {st : List Int}
theorem w_near (h : Jd Γ ta (wT C a b st)) : Jd Γ (tDGet ta (tC (.str "near"))) (cho C a) := jd_sget (m := wL C a b st) h (List.mem_cons_self ..)
theorem w_far (h : Jd Γ ta (wT C a b st)) : Jd Γ (tDGet ta (tC (.str "far"))) (cho C b) := jd_sget (m := wL C a b st) h (List.mem_cons_of_mem _ (List.mem_cons_self ..))
theorem w_st (h : Jd Γ ta (wT C a b st)) : Jd Γ (tDGet ta (tC (.str "standing"))) (dt (sD st)) := jd_sget (m := wL C a b st) h (List.mem_cons_of_mem _ (List.mem_cons_of_mem _ (List.mem_cons_self ..)))
theorem w_se (h : Jd Γ ta (wT C a b st)) : Jd Γ (tDGet ta (tC (.str "settled"))) (dt (setsD (settledL a b st))) := jd_sget (m := wL C a b st) h (List.mem_cons_of_mem _ (List.mem_cons_of_mem _ (List.mem_cons_of_mem _ (List.mem_cons_self ..))))
end
/-! ### plain -/
theorem Mkt.agr4 {a b : Ch} {p r q t : Int → Int} {st s : List Int} (M : Mkt a b p r q t) (D : Dom4 a b st s) : Agr a p q st s := (M.agr D.hpt D.sub).mp D.ag
theorem Mkt.domE {a b : Ch} {p r q t : Int → Int} {st s : List Int} (M : Mkt a b p r q t) (D : Dom4 a b st s) : DomE a b st s := ⟨⟨D.two, D.hst, D.hpt⟩, fun u hu => by
  have G := M.reach_agr D.hst (M.agr4 D) hu
  exact ⟨List.all_eq_true.mpr fun x hx => by simpa using G.sub x hx, (M.agr G.set G.sub).mpr G⟩⟩
theorem Mkt.dom3 {a b : Ch} {p r q t : Int → Int} {st s u : List Int} (M : Mkt a b p r q t) (D : Dom4 a b st s) (hu : u ∈ behindL a b st s) : Dom3 a b st u := by
  have G := M.reach_agr D.hst (M.agr4 D) ((mem_behindL D.dom1).mp hu)
  exact ⟨⟨D.two, D.hst⟩, G.set, G.sub⟩
theorem behind_len {a b : Ch} {st s : List Int} (D : Dom1 a b st s) : (behindL a b st s).length ≤ 64 := sets_few D.two.few (by
  unfold behindL
  exact byS_nodup (reachL_nodup D.two)) fun u hu => reach_set D.two D.hst D.hpt ((mem_behindL D).mp hu)
theorem ends_len {a b : Ch} {st s : List Int} (D : Dom1 a b st s) : (endsL a b st s).length ≤ 64 := by
  unfold endsL
  rw [byS_len]
  refine Nat.le_trans (List.length_filter_le _ _) ?_
  unfold reachL
  exact Nat.le_trans (List.length_filter_le _ _) (allS_len D.two.few)
theorem neq_nil {L : List (List Int)} (h : L = []) : (!PyData.eqv (.list (L.map sD)) (.list [])) = false := by
  subst h
  simp [PyData.eqv, PyData.eqvAll]
theorem sh_setsL0 (L : List (List Int)) : SeqAt.shaped (.list (L.map sD)) = true := (sh_lst (k := 1) fun d hd => by obtain ⟨s, _, rfl⟩ := List.mem_map.mp hd; exact sh_sD s).ok (by decide)
abbrev N__law_part_right : List Str := ["_law_w", "_law_part", "_law_near", "_law_far", "_law_standing", "_law_chain", "_law_ends", "_law_last", "_law_behind", "_law_some", "_law_paper", "_law_longest"]
theorem sc__law_part_right : FnScope N__law_part_right ["_law_w", "_law_part"] (defScope s__law_part_right) := ⟨rfl, rfl, rfl, by decide +kernel, rfl, by decide +kernel, by decide +kernel⟩
def DomP (a b : Ch) (st s : List Int) : Prop := Dom4 a b st s ∧ ∃ p r q t, Mkt a b p r q t
def sg__law_part_right (C : Cn) : Sg (Ch × Ch × List Int × List Int) := ⟨fun x => DomP x.1 x.2.1 x.2.2.1 x.2.2.2, fun x => [wT C x.1 x.2.1 x.2.2.1, dt (sD x.2.2.2)], fun x => dt (.bool true)⟩
def sp__law_part_right (C : Cn) : Sp := (sg__law_part_right C).sp
theorem ok__law_part_right {P : Program} {w : World} {K : PySem.W.Frag} {mg : Str → Option Value} {base : Heap} {C : Cn} {f : Addr} {fd : FuncData} (F : FunD K "_law_part_right" "_law_part_right" (defArgs s__law_part_right) (defBody s__law_part_right) (defScope s__law_part_right) [] [] f fd) (m : mg "_law_part_right" = some (.ref f)) (T : Top K mg C) (c_first_chain : Cal P w K mg base 7 "first_chain" (sp_first_chain C) []) (c_chain_ends : Cal P w K mg base 7 "chain_ends" (sp_chain_ends C) []) (c_pressed_all : Cal P w K mg base 7 "pressed_all" (sp_pressed_all C) []) (c_parts_behind : Cal P w K mg base 7 "parts_behind" (sp_parts_behind C) []) (c_judge_ends : Cal P w K mg base 7 "judge_ends" (sp_judge_ends C) []) (c_longest_chain : Cal P w K mg base 7 "longest_chain" (sp_longest_chain C) []) (c_judge_chain : Cal P w K mg base 8 "judge_chain" (sp_judge_chain C) []) (c_chain_holds : Cal P w K mg base 7 "chain_holds" (sp_chain_holds C) []) (c_does_go_round : Cal P w K mg base 8 "does_go_round" (sp_does_go_round C) []) (c_ends_hold : Cal P w K mg base 7 "ends_hold" (sp_ends_hold C) []) (c_is_agreed : Cal P w K mg base 5 "is_agreed" (sp_is_agreed C) []) (c_is_settled : Cal P w K mg base 6 "is_settled" (sp_is_settled C) []) :
    Cal P w K mg base 9 "_law_part_right" (sp__law_part_right C) [] := by
  refine cal_of F (fn_js (S := sg__law_part_right C) (k := 8) F sc__law_part_right (fun _ => rfl) fun cdv A outer s H E hr => ⟨_, PSs.nox ((pss_cons (ps_asg (pe_tup (pa_cons (pe_dget (hu_of hr) (pv 0) pe_str (fun _ _ => rfl)) (pa_cons (pe_dget (hu_of hr) (pv 0) pe_str (fun _ _ => rfl)) (pa_cons (pe_dget (hu_of hr) (pv 0) pe_str (fun _ _ => rfl)) pa_nil)))) (g_tup (K := K) (n := 3) rfl (by rfl) (pgs_cons (pg_name (i := 2) sc__law_part_right.nd rfl (Or.inr rfl)) (pgs_cons (pg_name (i := 3) sc__law_part_right.nd rfl (Or.inr rfl)) (pgs_cons (pg_name (i := 4) sc__law_part_right.nd rfl (Or.inr rfl)) pgs_nil)))))
    (pss_cons (ps_par (i := 5) (j := 6) (by rfl) sc__law_part_right.nd rfl rfl (by decide) rfl rfl (pa_cons (pe_c c_first_chain hr (by decide) (by rfl) (pa_cons (pv 2) (pa_cons (pv 3) (pa_cons (pv 4) (pa_cons (pv 1) pa_nil))))) (pa_cons (pe_c c_chain_ends hr (by decide) (by rfl) (pa_cons (pv 2) (pa_cons (pv 3) (pa_cons (pv 4) (pa_cons (pv 1) pa_nil))))) pa_nil)) (by rfl))
    (pss_cons (ps_if (PW.pt (pw_or (pt_cmpR op_isN0 (pv 5) pe_non (nomark _)) (pw_or (pt_cmpR (o_eq (K := K) rfl hr.units) (pv 6) (pe_tup pa_nil) (nomark _)) (pw_or1 (pt_cmpR (o_ne (K := K) rfl hr.units) (pe_c c_judge_chain hr (by decide) (by rfl) (pa_cons (pv 2) (pa_cons (pv 3) (pa_cons (pv 4) (pa_cons (pv 1) pa_nil))))) (pe_tup (pa_cons pe_str (pa_cons (pv 5) pa_nil))) (nomark _)))))) (pss_one (ps_ret pe_bl)) pss_nil)
    (pss_cons (ps_asg (pe_tup (pa_cons (pe_c c_pressed_all hr (by decide) (by rfl) (pa_cons (pv 2) (pa_cons (pv 3) (pa_cons (pv 4) (pa_cons (pv 1) (pa_cons (pv 5) pa_nil)))))) (pa_cons (pe_c c_parts_behind hr (by decide) (by rfl) (pa_cons (pv 2) (pa_cons (pv 3) (pa_cons (pv 4) (pa_cons (pv 1) pa_nil))))) pa_nil))) (g_tup (K := K) (n := 2) rfl (by rfl) (pgs_cons (pg_name (i := 7) sc__law_part_right.nd rfl (Or.inl rfl)) (pgs_cons (pg_name (i := 8) sc__law_part_right.nd rfl (Or.inr rfl)) pgs_nil))))
    (pss_cons (ps_if (PW.pt (pw_or (pt_cmpR (o_notIn (K := K) (w := w) rfl rfl (hu65 hr)) (pv 7) (pv 6) (by rfl)) (pw_or1 (pt_not (pt_val (pe_c c_chain_holds hr (by decide) (by rfl) (pa_cons (pv 2) (pa_cons (pv 3) (pa_cons (pv 4) (pa_cons (pv 1) (pa_cons (pe_tup (pa_cons pe_str (pa_cons (pv 5) pa_nil))) pa_nil))))))))))) (pss_one (ps_ret pe_bl)) pss_nil)
    (pss_cons (ps_if (pt_cmpR (o_ne (K := K) rfl hr.units) (pe_lc (own := [("_law_some", 9)]) rfl sc__law_part_right.nd (i_seq (K := K) rfl (pv 6)) (blkOk_by (own := [("_law_some", 9)]) (N := N__law_part_right) (sc := defScope s__law_part_right) (by decide +kernel)) (fun _ _ _ _ _ => (pg_name (i := 9) sc__law_part_right.nd rfl (Or.inl rfl))) (fun _ _ _ _ _ => pts_one (PW.pt (pw_or (pt_cmpR (o_notIn (K := K) (w := w) rfl rfl (hu65 hr)) (pv 9) (pe_dget (hu_of hr) (pv 0) pe_str (fun _ _ => rfl)) (by rfl)) (pw_or1 (pt_cmpR (o_notIn (K := K) (w := w) rfl rfl (hu65 hr)) (pv 9) (pv 8) (by rfl)))))) (fun _ _ _ _ _ => (pv 9))) (pe_lst pa_nil) (nomark _)) (pss_one (ps_ret pe_bl)) pss_nil)
    (pss_cons (ps_if (pt_cmpR (o_ne (K := K) rfl hr.units) (pe_lc (own := [("_law_some", 9)]) rfl sc__law_part_right.nd (i_seq (K := K) rfl (pv 8)) (blkOk_by (own := [("_law_some", 9)]) (N := N__law_part_right) (sc := defScope s__law_part_right) (by decide +kernel)) (fun _ _ _ _ _ => (pg_name (i := 9) sc__law_part_right.nd rfl (Or.inl rfl))) (fun _ _ _ _ _ => pts_one (pt_not (pt_val (pe_c c_is_agreed hr (by decide) (by rfl) (pa_cons (pv 2) (pa_cons (pv 3) (pa_cons (pv 9) pa_nil))))))) (fun _ _ _ _ _ => (pv 9))) (pe_lst pa_nil) (nomark _)) (pss_one (ps_ret pe_bl)) pss_nil)
    (pss_cons (ps_if (pt_cmpR (o_ne (K := K) rfl hr.units) (pe_callTy (c_tup (K := K) rfl) (by rfl) T.tuple_ boot_tuple (pa_cons (pe_lc (own := [("_law_some", 9)]) rfl sc__law_part_right.nd (i_seq (K := K) rfl (pv 8)) (blkOk_by (own := [("_law_some", 9)]) (N := N__law_part_right) (sc := defScope s__law_part_right) (by decide +kernel)) (fun _ _ _ _ _ => (pg_name (i := 9) sc__law_part_right.nd rfl (Or.inl rfl))) (fun _ _ _ _ _ => pts_one (pt_val (pe_c c_is_settled hr (by decide) (by rfl) (pa_cons (pv 2) (pa_cons (pv 3) (pa_cons (pv 4) (pa_cons (pv 9) pa_nil))))))) (fun _ _ _ _ _ => (pv 9))) pa_nil)) (pv 6) (nomark _)) (pss_one (ps_ret pe_bl)) pss_nil)
    (pss_cons (ps_par (i := 10) (j := 11) (by rfl) sc__law_part_right.nd rfl rfl (by decide) rfl rfl (pa_cons (pe_c c_judge_ends hr (by decide) (by rfl) (pa_cons (pv 2) (pa_cons (pv 3) (pa_cons (pv 4) (pa_cons (pv 1) pa_nil))))) (pa_cons (pe_c c_longest_chain hr (by decide) (by rfl) (pa_cons (pv 2) (pa_cons (pv 3) (pa_cons (pv 4) (pa_cons (pv 1) pa_nil))))) pa_nil)) (by rfl))
    (pss_cons (ps_if (PW.pt (pw_or (pt_cmpR (o_ne (K := K) rfl hr.units) (pe_c c_does_go_round hr (by decide) (by rfl) (pa_cons (pv 2) (pa_cons (pv 3) (pa_cons (pv 4) (pa_cons (pv 1) pa_nil))))) (pe_cmpR op_isN0 (pv 11) pe_non (nomark _)) (nomark _)) (pw_or1 (pt_not (pt_val (pe_c c_ends_hold hr (by decide) (by rfl) (pa_cons (pv 2) (pa_cons (pv 3) (pa_cons (pv 4) (pa_cons (pv 1) (pa_cons (pv 10) pa_nil))))))))))) (pss_one (ps_ret pe_bl)) pss_nil)
    (pss_cons (ps_if (pt_cmpR op_notN0 (pv 11) pe_non (nomark _)) (pss_one (ps_ret (pe_chain op_le op_le (pe_callB (c_len (K := K) rfl) (by rfl) T.len_ boot_len (pa_cons (pv 5) pa_nil)) (pv 11) (pe_dget (hu_of hr) (pe_callTy (call_dictP2 rfl (hu65 hr)) (by rfl) T.dict_ boot_dict (pa_cons (pe_ix (x_ix (K := K) rfl) (pv 10) pe_int (fun _ _ => rfl)) pa_nil)) (pv 1) (fun _ _ => rfl))))) pss_nil)
    (pss_one (ps_ret (pe_cmpR (o_eq (K := K) rfl hr.units) (pe_ix (x_ix (K := K) rfl) (pv 10) pe_int (fun _ _ => rfl)) pe_str (nomark _)))))))))))))))), fun x hd => ?_⟩) m (fun _ _ _ _ _ _ us hl => match us, hl with | [_, _], _ => rfl)
  obtain ⟨a, b, st, s⟩ := x
  have hd : DomP a b st s := hd
  obtain ⟨D, p, r, q, t, M⟩ := hd
  have G := M.agr4 D
  have D1 := D.dom1
  obtain ⟨os, e, hfc, he, hw⟩ := M.chain D1 G
  have re : Reach a b st s e := endOf_reach he
  have me : e ∈ endsL a b st s := (mem_endsL D1).mpr ⟨re, hw⟩
  have bl := behind_len D1
  have el := ends_len D1
  let W := wT C a b st
  let B5 : Gm := [some W, some (dt (sD s)), some (cho C a), some (cho C b), some (dt (sD st))]
  let B7 : Gm := B5 ++ [some (dt (sD os)), some (dt (setsD (endsL a b st s)))]
  let B9 : Gm := B7 ++ [some (dt (sD e)), some (dt (setsD (behindL a b st s)))]
  have four : ∀ {Γ : Gm}, Γ[1]? = some (some (dt (sD s))) → Γ[2]? = some (some (cho C a)) → Γ[3]? = some (some (cho C b)) → Γ[4]? = some (some (dt (sD st))) → Ja Γ (tCons (tVar 2) (tCons (tVar 3) (tCons (tVar 4) (tCons (tVar 1) tNil)))) [cho C a, cho C b, dt (sD st), dt (sD s)] := fun {Γ} h1 h2 h3 h4 => ja_cons (jd_var h2) (ja_cons (jd_var h3) (ja_cons (jd_var h4) (ja_cons (jd_var h1) ja_nil)))
  refine ⟨[], False, js_seq (Γ1 := B5 ++ [none, none, none, none, none, none, none]) (C1 := True) (js_tup3 (jd_tupV (ts := [cho C a, cho C b, dt (sD st)]) (ja_cons (w_near (jd_var rfl)) (ja_cons (w_far (jd_var rfl)) (ja_cons (w_st (jd_var rfl)) ja_nil))) (by simp))) fun _ =>
    js_seq (Γ1 := B7 ++ [none, none, none, none, none]) (C1 := True) (js_par2 (Jd.eq (d := optS (firstChain a b st s)) (jd_call (S := sg_first_chain C) (a, b, st, s) D (four rfl rfl rfl rfl)) (by rw [hfc]; rfl)) (jd_call (S := sg_chain_ends C) (a, b, st, s) D (four rfl rfl rfl rfl))) fun _ =>
    js_seq (js_guard (Jt.eq (jt_or (jt_test (jd_isN (jd_var (i := 5) (T := dt (sD os)) rfl))) fun _ => jt_or (jt_test (jd_eqD (jd_var (i := 6) (T := dt (setsD (endsL a b st s))) rfl) jd_nil (sh_setsD _) (sh_sD1 []))) fun _ => jt_test (jd_neD (d := chainD os) (e := chainD os) (jd_call (S := sg_judge_chain C) (a, b, st, s, os) ⟨D, hfc⟩ (four rfl rfl rfl rfl)) (jd_tup (ds := [.str "chain", sD os]) (ja_cons jd_str (ja_cons (jd_var rfl) ja_nil)) (by simp)) (sh_chainD os) (sh_chainD os))) ?_)) fun _ =>
    js_seq (Γ1 := B9 ++ [none, none, none]) (C1 := True) (js_tup2 (jd_tupV (ts := [dt (sD e), dt (setsD (behindL a b st s))]) (ja_cons (jd_call (S := sg_pressed_all C) (a, b, st, s, os, e) ⟨D, he⟩ (ja_cons (jd_var rfl) (ja_cons (jd_var rfl) (ja_cons (jd_var rfl) (ja_cons (jd_var rfl) (ja_cons (jd_var rfl) ja_nil)))))) (ja_cons (jd_call (S := sg_parts_behind C) (a, b, st, s) D (four rfl rfl rfl rfl)) ja_nil)) (by simp))) fun _ =>
    js_seq (js_guard (Jt.eq (jt_or (jt_test (jd_notInT (d := sD e) (ds := (endsL a b st s).map sD) (jd_var (i := 7) rfl) (jd_var (i := 6) rfl) (sh_sD1 e) (sh_setsD _))) fun _ => jt_not (jt_B (jd_call (S := sg_chain_holds C) (a, b, st, s, os, e) ⟨D, he, hw⟩ (ja_cons (jd_var rfl) (ja_cons (jd_var rfl) (ja_cons (jd_var rfl) (ja_cons (jd_var rfl) (ja_cons (jd_tup (ds := [.str "chain", sD os]) (ja_cons jd_str (ja_cons (jd_var rfl) ja_nil)) (by simp)) ja_nil)))))))) ?_)) fun _ =>
    js_seq (js_guard (Jt.eq (jt_test (jd_neD (jd_of_jf (jf_lc (xs := endsL a b st s) (Y := fun u => dt (sD u)) (bind := fun u Γ => Γ.set 9 (some (dt (sD u)))) (p := fun u => !decide (u ∈ settledL a b st) || !decide (u ∈ behindL a b st s)) (q := sD) (ji_tup (D := sD) (jd_var (i := 6) rfl)) (tg_name 9) (fun u hu => Jt.eq (jt_or (jt_test (jd_notInT (d := sD u) (ds := (settledL a b st).map sD) (jd_var (i := 9) rfl) (w_se (jd_var (i := 0) rfl)) (sh_sD1 u) (sh_setsD _))) fun _ => jt_test (jd_notInT (d := sD u) (ds := (behindL a b st s).map sD) (jd_var (i := 9) rfl) (jd_var (i := 8) rfl) (sh_sD1 u) (sh_setsD _))) (by rw [any_sets, any_sets])) (fun u hu _ => jd_var (i := 9) rfl) (by omega) (fun u _ _ => noL_sD u))) (jd_of_jf (jf_lst (ds := []) ja_nil (by simp))) (sh_setsL0 _) (sh_setsL0 []))) ?_)) fun _ =>
    js_seq (js_guard (Jt.eq (jt_test (jd_neD (jd_of_jf (jf_lc (xs := behindL a b st s) (Y := fun u => dt (sD u)) (bind := fun u Γ => Γ.set 9 (some (dt (sD u)))) (p := fun u => !agreedB a b u) (q := sD) (ji_tup (D := sD) (jd_var (i := 8) rfl)) (tg_name 9) (fun u hu => jt_not (jt_B (jd_call (S := sg_is_agreed C) (a, b, u) ⟨D.two, (M.dom3 D hu).hpt⟩ (ja_cons (jd_var (i := 2) rfl) (ja_cons (jd_var (i := 3) rfl) (ja_cons (jd_var (i := 9) rfl) ja_nil)))))) (fun u hu _ => jd_var (i := 9) rfl) (by omega) (fun u _ _ => noL_sD u))) (jd_of_jf (jf_lst (ds := []) ja_nil (by simp))) (sh_setsL0 _) (sh_setsL0 []))) ?_)) fun _ =>
    js_seq (js_guard (Jt.eq (jt_test (jd_neD (d := setsD ((behindL a b st s).filter (settledB a b st))) (e := setsD (endsL a b st s)) (jd_tupOf (jd_of_jf (jf_lc (xs := behindL a b st s) (Y := fun u => dt (sD u)) (bind := fun u Γ => Γ.set 9 (some (dt (sD u)))) (p := settledB a b st) (q := sD) (ji_tup (D := sD) (jd_var (i := 8) rfl)) (tg_name 9) (fun u hu => jt_B (jd_call (S := sg_is_settled C) (a, b, st, u) (M.dom3 D hu) (ja_cons (jd_var (i := 2) rfl) (ja_cons (jd_var (i := 3) rfl) (ja_cons (jd_var (i := 4) rfl) (ja_cons (jd_var (i := 9) rfl) ja_nil)))))) (fun u hu _ => jd_var (i := 9) rfl) (by omega) (fun u _ _ => noL_sD u)))) (jd_var (i := 6) rfl) (sh_setsD _) (sh_setsD _))) ?_)) fun _ =>
    js_seq (Γ1 := B9 ++ [none, some (paperT a b st s), some (dt (optD (rankO a b st s)))]) (C1 := True) (js_par2 (jd_call (S := sg_judge_ends C) (a, b, st, s) D (four rfl rfl rfl rfl)) (jd_call (S := sg_longest_chain C) (a, b, st, s) D (four rfl rfl rfl rfl))) fun _ =>
    js_seq (js_guard (Jt.eq (jt_or (jt_test (jd_neD (d := .bool (rankO a b st s).isNone) (e := .bool (isNo (optD (rankO a b st s)))) (jd_call (S := sg_does_go_round C) (a, b, st, s) D (four rfl rfl rfl rfl)) (jd_isN (jd_var (i := 11) rfl)) (sh_bool1 _) (sh_bool1 _))) fun _ => jt_not (jt_B (jd_call (S := sg_ends_hold C) (a, b, st, s) ⟨D, M.domE D⟩ (ja_cons (jd_var rfl) (ja_cons (jd_var rfl) (ja_cons (jd_var rfl) (ja_cons (jd_var rfl) (ja_cons (jd_var (i := 10) rfl) ja_nil)))))))) ?_)) fun _ =>
    js_open (i := 10) rfl (T' := fun x : { fm // IsPaper a b st s fm } ⊕ { z // rankO a b st s = none ∧ IsRing a b st s z } => x.elim (fun fm => paperR fm.1) (fun z => dt (ringD z.1))) (fun v H h => ?_) fun x => ?_, fun z => z.elim⟩
  · show (isNo (sD os) || (PyData.eqv (setsD (endsL a b st s)) (sD []) || !PyData.eqv (chainD os) (chainD os))) = false
    rw [eqv_chainD]
    cases hE : endsL a b st s with
    | nil => rw [hE] at me; cases me
    | cons x L => simp [isNo, setsD, PyData.eqv, PyData.eqvAll]
  · show (!(((endsL a b st s).map sD).any fun z => PyData.eqv z (sD e)) || !true) = false
    rw [any_sets, decide_eq_true me]
    rfl
  · refine neq_nil (List.filter_eq_nil_iff.mpr fun u hu => ?_)
    have h1 : u ∈ settledL a b st := M.ends_settled D1 G hu
    have h2 : u ∈ behindL a b st s := (mem_behindL D1).mpr ((mem_endsL D1).mp hu).1
    simp [h1, h2]
  · refine neq_nil (List.filter_eq_nil_iff.mpr fun u hu => ?_)
    rw [((M.domE D).rok u ((mem_behindL D1).mp hu)).2]
    simp
  · rw [M.behind_ends D1 G, eqv_setsD]
    simp
  · show (!PyData.eqv (.bool (rankO a b st s).isNone) (.bool (isNo (optD (rankO a b st s)))) || !true) = false
    cases rankO a b st s <;> simp [optD, isNo, PyData.eqv]
  · rcases h with ⟨fm, h1, h2⟩ | ⟨h1, z, h2, h3⟩
    · exact ⟨.inl ⟨fm, h1⟩, h2⟩
    · exact ⟨.inr ⟨z, h1, h2⟩, h3⟩
  · rcases x with ⟨fm, F⟩ | ⟨z, hno, R⟩
    · obtain ⟨k, hk⟩ := F.pr
      have hr : rankO a b st s = some k := rankO_some F.toRkOk hk
      have few : fm.length ≤ 64 := F.few D1
      have v10 : ∀ {Γ : Gm}, Γ[10]? = some (some (paperR fm)) → Jd Γ (tVar 10) (tupV [dt (.str "ranks"), rowsZ fm]) := fun {Γ} e => jd_var e
      have v11 : ∀ {Γ : Gm}, Γ[11]? = some (some (dt (optD (rankO a b st s)))) → Jd Γ (tVar 11) (dt (.int k)) := fun {Γ} e => by rw [hr] at e; exact jd_var e
      have hle : ((os.length : Nat) : Int) ≤ k := F.toRkPre.chain he hk
      refine js_seq (js_if (C := False) (Γ' := []) (b := true) (Jt.eq (jt_test (jd_notN (v11 rfl))) rfl) (fun _ => js_ret ((jd_chain (b := decide ((os.length : Int) ≤ k)) (c := decide (k ≤ k)) (jd_lenS (jd_var (i := 5) (T := dt (sD os)) rfl)) (v11 rfl) (fun x y H Q p1 p2 kq => r_le p1 p2 kq) (fun _ => jd_dget (m := rkDict fm) (s := s) (d := .int k) (Jd.imp (jd_dictZ (fm := fm) (jd_ixTV (v10 rfl) jd_int (atI_nat (j := 1) rfl)) F.nd (by omega)) fun v H h => dicT_F h) (jd_var (i := 1) rfl) (by rw [lookD_rk, rkOf_mem F.nd hk]; rfl)) fun _ x y H Q p1 p2 kq => r_le p1 p2 kq).eq (by rw [decide_eq_true hle, decide_eq_true (Int.le_refl k)]; rfl))) (fun z => by cases z)) fun z => z.elim
    · obtain ⟨pre, cyc, bg⟩ := z
      have v10 : ∀ {Γ : Gm}, Γ[10]? = some (some (dt (ringD (pre, cyc, bg)))) → Jd Γ (tVar 10) (dt (.tuple [.str "ring", sD pre, sD cyc])) := fun {Γ} e => jd_var e
      refine js_seq (js_guard (Jt.eq (jt_test (jd_notN (jd_var (i := 11) (T := dt (optD (rankO a b st s))) rfl))) (by rw [hno]; rfl))) fun _ => js_ret ((jd_eqStr (jd_ixT (v10 rfl) jd_int atI_zero) jd_str (by decide +kernel) (by decide +kernel)).eq (by rw [show decide (("ring" : PySem.Str) = "ring") = true by decide +kernel]))
end Ost
set_option Elab.async false
set_option linter.all false
set_option maxRecDepth 100000
set_option maxHeartbeats 1000000
/-! K17: sorted of a tuple of ints; len(set(xs)). -/
namespace Ost
open PySem PySem.Spec PyProof.Rows L2
open C8 (Cal pe_c Mak pe_mk Met pe_gc)

/-! ### sorted(t), fewer than 64 ints -/
def rSortT (K : PySem.W.Frag) : List V → Hp → VK → Prop := fun xs H Q => ∃ (a : Addr) (s : List Int), xs = [.ref a] ∧ SqT K H a (s.map V.int) ∧ s.length < 64 ∧
  ∀ (u : List Int) (l : Addr), u.Perm s → u.Pairwise (· ≤ ·) → H l = none → Q (.ref l) (upd H l (.lst (u.map V.int)))
theorem cr_sortT {X : Cx} {K : PySem.W.Frag} (hK : X.K = K) : CallR X (.builtin "sorted") (rSortT K) := by
  subst hK
  intro pn sh σ H xs us Q I r h
  obtain ⟨a, s, rfl, hs, h64, q⟩ := h
  obtain ⟨its, rv, ⟨o, ho, hc, n, hd⟩, hz⟩ := I.tuple hs
  rw [Vals.ref1 r]
  have hi := rv.ints
  have hl : its.length < 64 := by rw [hi.length]; exact h64
  have hl2 : its.length ≤ sizeLine := small64 hl
  refine Calls.call_function_entry kind_sorted plain_sorted entry_sorted (args_sorted1 _) ?_
  unfold Builtin.«sorted»
  refine wpAny_bind (m := checkCount "sorted" 1 1 _) (wpAny_pure ?_)
  refine wpAny_bind (wpAny_collect_seq a (.inr rfl) ho hc hd (fun h1 hk => ?_) (by rw [List.size_toArray]; exact hl2))
  have e0 : its.toArray.toList = its := by simp
  rw [e0]
  refine wpAny_bind (wpAny_newList ?_ hl2)
  have I1 := I.kept (t' := sh.toks) hk
  have hoL : (h1.push (seqObj "list" its.toArray 0)).get? h1.objs.size = some (seqObj "list" its.toArray 0) := Heap.get?_push_size _ rfl
  refine wpAny_bind (wpAny_holding (wpAny_call_entry slot_list_sort ⟨_, hoL, rfl⟩ entry_list_sort (list_sort_tree hoL hi hl fun out u a1 a2 a3 => ⟨_, rfl, ?_⟩) (args_list_sort _)))
  obtain ⟨c, hc2⟩ := sortedHeap_at (vs := its) (out := out) hoL
  have hlen : (u.map V.int).length ≤ sizeLine := by rw [List.length_map, a2.length_eq]; exact small64 h64
  have J := I1.laid (t' := sh.toks) (h' := sortedHeap (h1.push (seqObj "list" its.toArray 0)) h1.objs.size its out) (a := h1.objs.size) (o := .lst (u.map V.int)) (fun b w e => by
    have lt := Heap.lt_size e
    rw [sortedHeap_old (Nat.ne_of_lt lt) (by rw [size_push']; exact Nat.lt_succ_of_lt lt)]
    exact Heap.get?_push_of_some _ e) (Nat.le_refl _) ⟨hlen, out.toList, c, vals_of_ints a1, hc2⟩
  exact wpAny_pure ⟨_, rfl, .ref h1.objs.size, upd H h1.objs.size (.lst (u.map V.int)), J, rfl, q u _ a2 a3 (I1.hok.fresh (Nat.le_refl _))⟩
theorem asc_of_le {s : List Int} (h : s.Pairwise (· ≤ ·)) (nd : s.Nodup) : s.Pairwise (· < ·) := by
  have := List.Pairwise.and h nd
  exact this.imp fun {a b} h => by have h1 := h.1; have h2 := h.2; omega
section
variable {Γ : Gm} {te : TE} {K : PySem.W.Frag} {s : List Int}
theorem jf_sortT (h : Jd Γ te (dt (sD s))) (nd : s.Nodup) (hl : s.length < 64) : Jf Γ (tCB (rSortT K) (tCons te tNil)) ((canon s).map .int) := jf_cb (ja_cons h ja_nil) fun vs H Q p k => by
  obtain ⟨v, rfl, pv⟩ := fits1 p
  obtain ⟨a, rfl, h1⟩ := tp_sD.mp pv
  refine ⟨a, s, rfl, SqT.of h1, hl, fun u l p1 p2 hn => ?_⟩
  have e : u = canon s := asc_ext (asc_of_le p2 (p1.nodup_iff.mpr nd)) (asc_canon s) fun x => by rw [p1.mem_iff, mem_canon]
  subst e
  exact k l _ _ (same_upd hn) hn upd_same (TpAll.ints.mpr rfl)
end

/-! ### len(set(xs)), ints -/
def cntI (s : List Int) : Nat := (firstMet (fun i => s.getD i 0) s.length).length
theorem cntI_nodup {s : List Int} (h : s.Nodup) : cntI s = s.length := by
  unfold cntI
  rw [RZ.firstMet_nodup h s.length (Nat.le_refl _), List.take_length]
theorem cntI_inv {s : List Int} : ∀ i, i ≤ s.length → (firstMet (fun i => s.getD i 0) i).length = i → (s.take i).Nodup
  | 0, _, _ => by simp
  | i + 1, hi, h => by
    have lt : i < s.length := hi
    have le := firstMet_length_le (fun i => s.getD i 0) i
    rw [firstMet_succ] at h
    unfold step_dedup at h
    have eg : s.getD i 0 = s[i] := by rw [List.getD_eq_getElem?_getD, List.getElem?_eq_getElem lt]; rfl
    have et : (List.range i).map (fun i => s.getD i 0) = s.take i := by
      apply List.ext_getElem
      · rw [List.length_map, List.length_range, List.length_take]; omega
      · intro j h1 h2
        rw [List.getElem_map, List.getElem_range, List.getElem_take, List.getD_eq_getElem?_getD, List.getElem?_eq_getElem (by rw [List.length_take] at h2; omega)]
        rfl
    split at h
    · omega
    · rename_i hn
      rw [List.length_append, List.length_singleton] at h
      have ih := cntI_inv i (Nat.le_of_lt lt) (by omega)
      rw [firstMet_any, et] at hn
      rw [List.take_add_one, List.getElem?_eq_getElem lt]
      refine List.nodup_append.mpr ⟨ih, by simp, fun x hx y hy e => ?_⟩
      have hy : y = s[i] := by simpa using hy
      refine hn (List.any_eq_true.mpr ⟨x, hx, ?_⟩)
      rw [e, hy]
      show (s[i] == s.getD i 0) = true
      rw [eg]
      exact beq_self_eq_true _
theorem cntI_iff {s : List Int} : cntI s = s.length ↔ s.Nodup := ⟨fun h => by
  have := cntI_inv (s := s) s.length (Nat.le_refl _) h
  rwa [List.take_length] at this, cntI_nodup⟩
def tLenSet2 (K : PySem.W.Frag) (i : Nat) : TE := fun σ H Q => ∃ (l : Addr) (s : List Int), σ[i]? = some (some (.ref l)) ∧ SqL K H l (s.map V.int) ∧ s.length ≤ 1000 ∧ Q (.int (cntI s : Nat)) H
theorem pe_lenSet2 {X : Cx} {K : PySem.W.Frag} {i : Nat} {e : Expr} {p p2 q pos : Pos} (hK : X.K = K) (ha : PE X e (tVar i)) (hg : Gl X "len") (hm : X.mg "len" = none) (hg2 : Gl X "set") (hm2 : X.mg "set" = none) (hc : X.calm = true := by rfl)
    (na : starEach [e] X.env = (false, eval e X.env) :: starEach [] X.env := by rfl) : PE X (.Call (.Name "len" p) [.Call (.Name "set" p2) [e] [] q] [] pos) (tLenSet2 K i) := by
  subst hK
  refine ⟨fun pn s σ H Q I h => ?_⟩
  obtain ⟨l, zs, h1, h2, h3, hq⟩ := h
  refine Call_ (ld_blt I hg hm boot_len (PyProof.Rows.callWith_builtin1 (PyProof.Rows.args_cons ?_ rfl) rfl rfl))
  refine Call_ (ld_blt I hg2 hm2 boot_set (PyProof.Rows.callWith_type1 (PyProof.Rows.args_cons (thn (ha.run pn s σ H (fun v H1 => v = .ref l ∧ H1 = H) I ⟨.ref l, h1, rfl, rfl⟩) fun v s1 ⟨y, H1, I1, r1, e1, e2⟩ => PyProof.Rows.args_nil ?_) na) na rfl))
  subst e2
  subst e1
  cases r1
  obtain ⟨its, r, pl, hz⟩ := I1.list h2
  have hs : its.toArray.size = zs.length := by rw [List.size_toArray, ← r.length, List.length_map]
  refine call_set_list (I1.ok.hd hc) pl.isList (ns := zs) (by simpa using ints_of_vals r) (by rw [hs]; unfold scanBound; omega) fun h' tk hS hk => PyProof.Rows.args_nil ?_
  rw [hs] at hS
  obtain ⟨o, es, ep, t, ho, hex, hd, _, _, _, hf, hn⟩ := hS
  have lb : cntI zs ≤ zs.length := firstMet_length_le _ _
  have hn : es.size = cntI zs := hn
  have I2 : Inv X pn σ H1 { s1 with heap := h', toks := tk } := I1.kept fun b o e => hk b o (Heap.lt_size e) e
  exact call_len_set ho hex hd hf (by rw [hn]; omega) ⟨.int (cntI zs), H1, I2.tok _, ⟨_, by rw [hn]⟩, hq⟩
theorem jd_lenSet2 {Γ : Gm} {K : PySem.W.Frag} {i : Nat} {s : List Int} (h : Γ[i]? = some (some (dt (.list (s.map .int))))) (hl : s.length ≤ 1000) : Jd Γ (tLenSet2 K i) (dt (.int (cntI s : Nat))) := fun σ H ty Q k => by
  obtain ⟨v, h1, h2⟩ := ty.at_ i _ h
  obtain ⟨a, xs, rfl, q1, q2⟩ := of_lst h2
  have := TpAll.ints.mp q2
  subst this
  exact ⟨a, s, h1, SqL.of q1, hl, k _ H (Same.refl H) (dt_int _)⟩
end Ost
set_option Elab.async false
set_option linter.all false
set_option maxRecDepth 100000
set_option maxHeartbeats 1000000
/-! D21: a loan that comes, or goes. -/
namespace Ost
open PySem PySem.Spec PyProof.Rows L2
open C8 (Cal pe_c Mak pe_mk Met pe_gc)

theorem eq_nilL {L : List (List Int)} (h : L = []) : PyData.eqv (.list (L.map sD)) (.list []) = true := by
  subst h
  simp [PyData.eqv, PyData.eqvAll]
theorem change_both {a b : Ch} {p r q t : Int → Int} {st s : List Int} {o : Int} (M : Mkt a b p r q t) (D : Dom5 a b st s) (ho : 0 ≤ o ∧ o < (a.n : Int)) :
    ∃ st2 s2, (o ∈ st → st2 = without st o ∧ s2 = without s o) ∧ (o ∉ st → st2 = withO st o ∧ s = s2) ∧ Dom1 a b st2 s2 ∧ Agr a p q st2 s2 := by
  have G : Agr a p q st s := (M.agr D.hpt D.sub).mp D.ag.1
  by_cases h : o ∈ st
  · exact ⟨_, _, fun _ => ⟨rfl, rfl⟩, fun n => absurd h n, ⟨D.two, isSet_without D.hst, isSet_without D.hpt⟩, G.less⟩
  · exact ⟨_, _, fun n => absurd n h, fun _ => ⟨rfl, rfl⟩, ⟨D.two, isSet_withO D.hst ho, D.hpt⟩, G.withSt⟩
abbrev N__law_change_right : List Str := ["_law_w", "_law_part", "_law_x", "_law_near", "_law_far", "_law_standing", "_law_later", "_law_y", "_law_told", "_law_some"]
theorem sc__law_change_right : FnScope N__law_change_right ["_law_w", "_law_part", "_law_x"] (defScope s__law_change_right) := ⟨rfl, rfl, rfl, by decide +kernel, rfl, by decide +kernel, by decide +kernel⟩
def sg__law_change_right (C : Cn) : Sg (Ch × Ch × List Int × List Int × Int) := ⟨fun x => (Dom5 x.1 x.2.1 x.2.2.1 x.2.2.2.1 ∧ (0 ≤ x.2.2.2.2 ∧ x.2.2.2.2 < (x.1.n : Int))) ∧ ∃ p r q t, Mkt x.1 x.2.1 p r q t, fun x => [wT C x.1 x.2.1 x.2.2.1, dt (sD x.2.2.2.1), dt (.int x.2.2.2.2)], fun x => dt (.bool true)⟩
def sp__law_change_right (C : Cn) : Sp := (sg__law_change_right C).sp
theorem ok__law_change_right {P : Program} {w : World} {K : PySem.W.Frag} {mg : Str → Option Value} {base : Heap} {C : Cn} {f : Addr} {fd : FuncData} (F : FunD K "_law_change_right" "_law_change_right" (defArgs s__law_change_right) (defBody s__law_change_right) (defScope s__law_change_right) [] [] f fd) (m : mg "_law_change_right" = some (.ref f)) (T : Top K mg C) (c_without_offer : Cal P w K mg base 8 "without_offer" (sp_without_offer C) []) (c_with_offer : Cal P w K mg base 8 "with_offer" (sp_with_offer C) []) (c_is_touched : Cal P w K mg base 8 "is_touched" (sp_is_touched C) []) (c_is_settled : Cal P w K mg base 6 "is_settled" (sp_is_settled C) []) (c_settled_sets : Cal P w K mg base 6 "settled_sets" (sp_settled_sets C) []) :
    Cal P w K mg base 9 "_law_change_right" (sp__law_change_right C) [] := by
  refine cal_of F (fn_js (S := sg__law_change_right C) (k := 8) F sc__law_change_right (fun _ => rfl) fun cdv A outer s H E hr => ⟨_, PSs.nox ((pss_cons (ps_asg (pe_tup (pa_cons (pe_dget (hu_of hr) (pv 0) pe_str (fun _ _ => rfl)) (pa_cons (pe_dget (hu_of hr) (pv 0) pe_str (fun _ _ => rfl)) (pa_cons (pe_dget (hu_of hr) (pv 0) pe_str (fun _ _ => rfl)) pa_nil)))) (g_tup (K := K) (n := 3) rfl (by rfl) (pgs_cons (pg_name (i := 3) sc__law_change_right.nd rfl (Or.inr rfl)) (pgs_cons (pg_name (i := 4) sc__law_change_right.nd rfl (Or.inr rfl)) (pgs_cons (pg_name (i := 5) sc__law_change_right.nd rfl (Or.inl rfl)) pgs_nil)))))
    (pss_cons (ps_if (pt_cmpR (o_in (K := K) (w := w) rfl rfl (hu65 hr)) (pv 2) (pv 5) (by rfl)) (pss_cons (ps_set (i := 6) sc__law_change_right.nd rfl (Or.inr rfl) (pe_callTy (c_tup (K := K) rfl) (by rfl) T.tuple_ boot_tuple (pa_cons (pe_lc (own := [("_law_y", 7)]) rfl sc__law_change_right.nd (i_seq (K := K) rfl (pv 5)) (blkOk_by (own := [("_law_y", 7)]) (N := N__law_change_right) (sc := defScope s__law_change_right) (by decide +kernel)) (fun _ _ _ _ _ => (pg_name (i := 7) sc__law_change_right.nd rfl (Or.inl rfl))) (fun _ _ _ _ _ => pts_one (pt_cmpR (o_ne (K := K) rfl hr.units) (pv 7) (pv 2) (nomark _))) (fun _ _ _ _ _ => (pv 7))) pa_nil)))
    (pss_cons (ps_set (i := 8) sc__law_change_right.nd rfl (Or.inl rfl) (pe_c c_without_offer hr (by decide) (by rfl) (pa_cons (pv 3) (pa_cons (pv 4) (pa_cons (pv 5) (pa_cons (pv 1) (pa_cons (pv 2) pa_nil)))))))
    (pss_one (ps_if (PW.pt (pw_and (pt_cmpR (o_notIn (K := K) (w := w) rfl rfl (hu65 hr)) (pv 2) (pv 1) (by rfl)) (pw_and1 (pt_cmpR (o_ne (K := K) rfl hr.units) (pv 8) (pe_tup (pa_cons (pv 1) pa_nil)) (nomark _))))) (pss_one (ps_ret pe_bl)) pss_nil)))) (pss_cons (ps_set (i := 6) sc__law_change_right.nd rfl (Or.inr rfl) (pe_callTy (c_tup (K := K) rfl) (by rfl) T.tuple_ boot_tuple (pa_cons (pe_callB (cr_sortT (K := K) rfl) (by rfl) T.sorted_ boot_sorted (pa_cons (pe_op (o_add (K := K) rfl) (pv 5) (pe_tup (pa_cons (pv 2) pa_nil))) pa_nil)) pa_nil)))
    (pss_cons (ps_set (i := 8) sc__law_change_right.nd rfl (Or.inl rfl) (pe_c c_with_offer hr (by decide) (by rfl) (pa_cons (pv 3) (pa_cons (pv 4) (pa_cons (pv 5) (pa_cons (pv 1) (pa_cons (pv 2) pa_nil)))))))
    (pss_one (ps_if (pt_cmpR (o_ne (K := K) rfl hr.units) (pe_c c_is_touched hr (by decide) (by rfl) (pa_cons (pv 3) (pa_cons (pv 4) (pa_cons (pv 5) (pa_cons (pv 1) (pa_cons (pv 2) pa_nil)))))) (pe_not (pe_c c_is_settled hr (by decide) (by rfl) (pa_cons (pv 3) (pa_cons (pv 4) (pa_cons (pv 6) (pa_cons (pv 1) pa_nil)))))) (nomark _)) (pss_one (ps_ret pe_bl)) pss_nil)))))
    (pss_one (ps_ret (pe_and (pe_cmpR (o_ne (K := K) rfl hr.units) (pv 8) (pe_tup pa_nil) (nomark _)) (pe_one (pe_cmpR (o_eq (K := K) rfl hr.units) (pe_lc (own := [("_law_some", 9)]) rfl sc__law_change_right.nd (i_seq (K := K) rfl (pv 8)) (blkOk_by (own := [("_law_some", 9)]) (N := N__law_change_right) (sc := defScope s__law_change_right) (by decide +kernel)) (fun _ _ _ _ _ => (pg_name (i := 9) sc__law_change_right.nd rfl (Or.inl rfl))) (fun _ _ _ _ _ => pts_one (pt_cmpR (o_notIn (K := K) (w := w) rfl rfl (hu65 hr)) (pv 9) (pe_c c_settled_sets hr (by decide) (by rfl) (pa_cons (pv 3) (pa_cons (pv 4) (pa_cons (pv 6) pa_nil)))) (by rfl))) (fun _ _ _ _ _ => (pv 9))) (pe_lst pa_nil) (nomark _))))))))), fun x hd => ?_⟩) m (fun _ _ _ _ _ _ us hl => match us, hl with | [_, _, _], _ => rfl)
  obtain ⟨a, b, st, s, o⟩ := x
  have hd : (Dom5 a b st s ∧ (0 ≤ o ∧ o < (a.n : Int))) ∧ ∃ p r q t, Mkt a b p r q t := hd
  obtain ⟨⟨D, ho⟩, p, r, q, t, M⟩ := hd
  have hw := D.ag.2
  have h6 := D.two.few
  have ls := len6 D.hst h6
  obtain ⟨st2, s2, hA, hB, D1, G2⟩ := change_both M D ho
  have el := ends_len D1
  let B6 : Gm := [some (wT C a b st), some (dt (sD s)), some (dt (.int o)), some (cho C a), some (cho C b), some (dt (sD st))]
  have five : ∀ {Γ : Gm}, Γ[1]? = some (some (dt (sD s))) → Γ[2]? = some (some (dt (.int o))) → Γ[3]? = some (some (cho C a)) → Γ[4]? = some (some (cho C b)) → Γ[5]? = some (some (dt (sD st))) → Ja Γ (tCons (tVar 3) (tCons (tVar 4) (tCons (tVar 5) (tCons (tVar 1) (tCons (tVar 2) tNil))))) [cho C a, cho C b, dt (sD st), dt (sD s), dt (.int o)] := fun {Γ} h1 h2 h3 h4 h5 => ja_cons (jd_var h3) (ja_cons (jd_var h4) (ja_cons (jd_var h5) (ja_cons (jd_var h1) (ja_cons (jd_var h2) ja_nil))))
  refine ⟨[], False, js_seq (Γ1 := B6 ++ [none, none, none, none]) (C1 := True) (js_tup3 (jd_tupV (ts := [cho C a, cho C b, dt (sD st)]) (ja_cons (w_near (jd_var rfl)) (ja_cons (w_far (jd_var rfl)) (ja_cons (w_st (jd_var rfl)) ja_nil))) (by simp))) fun _ =>
    js_seq (Γ1 := B6 ++ [some (dt (sD st2)), none, some (dt (setsD (endsL a b st2 s2))), none]) (C1 := True) (js_if (b := st.contains o) (jt_test (jd_inI (jd_var (i := 2) rfl) (jd_var (i := 5) rfl))) (fun hin => ?_) (fun hno => ?_)) fun _ =>
    js_ret ((jd_and (jd_neD (jd_var (i := 8) (T := dt (setsD (endsL a b st2 s2))) rfl) jd_nil (sh_setsD _) (sh_sD1 [])) fun _ => jd_eqD (jd_of_jf (jf_lc (xs := endsL a b st2 s2) (Y := fun u => dt (sD u)) (bind := fun u Γ => Γ.set 9 (some (dt (sD u)))) (p := fun u => !decide (u ∈ settledL a b st2)) (q := sD) (ji_tup (D := sD) (jd_var (i := 8) rfl)) (tg_name 9) (fun u hu => Jt.eq (jt_test (jd_notInT (d := sD u) (ds := (settledL a b st2).map sD) (jd_var (i := 9) rfl) (jd_call (S := sg_settled_sets C) (a, b, st2) ⟨D.two, D1.hst⟩ (ja_cons (jd_var (i := 3) rfl) (ja_cons (jd_var (i := 4) rfl) (ja_cons (jd_var (i := 6) rfl) ja_nil)))) (sh_sD1 u) (sh_setsD _))) (by rw [any_sets])) (fun u hu _ => jd_var (i := 9) rfl) (by omega) (fun u _ _ => noL_sD u))) (jd_of_jf (jf_lst (ds := []) ja_nil (by simp))) (sh_setsL0 _) (sh_setsL0 [])).eq ?_), fun z => z.elim⟩
  · have hin : o ∈ st := by simpa using hin
    obtain ⟨rfl, rfl⟩ := hA hin
    refine js_seq (Γ1 := B6 ++ [some (dt (sD (without st o))), none, none, none]) (C1 := True) (js_asg (i := 6) (jd_filter (s := st) (j := 7) (p := fun y => !decide (y = o)) (ji_ints (jd_var (i := 5) rfl)) (fun y hy => jt_test (jd_neInt (jd_var (i := 7) rfl) (jd_var (i := 2) rfl))) (fun y hy => jd_var (i := 7) rfl) (by omega))) fun _ =>
      js_seq (Γ1 := B6 ++ [some (dt (sD (without st o))), none, some (dt (setsD (endsL a b (without st o) (without s o)))), none]) (C1 := True) (js_asg (i := 8) (jd_call (S := sg_without_offer C) (a, b, st, s, o) ⟨D, hin⟩ (five rfl rfl rfl rfl rfl))) fun _ =>
      js_guard (Jt.eq (jt_and (jt_test (jd_notInI (jd_var (i := 2) rfl) (jd_var (i := 1) rfl))) fun _ => jt_test (jd_neD (e := setsD [s]) (jd_var (i := 8) (T := dt (setsD (endsL a b (without st o) (without s o)))) rfl) (jd_tup (ds := [sD s]) (ja_cons (jd_var (i := 1) rfl) ja_nil) (by simp)) (sh_setsD _) (sh_setsD _))) ?_)
    by_cases hs : o ∈ s
    · simp [hs]
    · have e1 : without s o = s := without_self hs
      have D2 : Dom1 a b (without st o) s := by rw [e1] at D1; exact D1
      rw [e1, ends_self D2 (wished_less (fun x hx => (mem_without.mp hx).1) hw), eqv_setsD]
      simp
  · have hno : o ∉ st := by simpa using hno
    obtain ⟨rfl, rfl⟩ := hB hno
    have nd : (st ++ [o]).Nodup := List.nodup_append.mpr ⟨asc_nodup D.hst.1, by simp, fun x hx y hy e => hno (by rw [List.mem_singleton.mp hy] at e; rw [← e]; exact hx)⟩
    refine js_seq (Γ1 := B6 ++ [some (dt (sD (withO st o))), none, none, none]) (C1 := True) (js_asg (i := 6) (jd_tupOf (jd_of_jf (jf_sortT (s := st ++ [o]) (Jd.eq (jd_cat (ds := st.map .int) (es := [.int o]) (jd_var (i := 5) rfl) (jd_tup (ds := [.int o]) (ja_cons (jd_var (i := 2) rfl) ja_nil) (by simp)) (by rw [List.length_map]; show st.length + 1 ≤ 1000; omega)) (by show PyData.tuple _ = PyData.tuple _; rw [List.map_append]; rfl)) nd (by rw [List.length_append]; show st.length + 1 < 64; omega))))) fun _ =>
      js_seq (Γ1 := B6 ++ [some (dt (sD (withO st o))), none, some (dt (setsD (endsL a b (withO st o) s))), none]) (C1 := True) (js_asg (i := 8) (jd_call (S := sg_with_offer C) (a, b, st, s, o) ⟨D, ho, hno⟩ (five rfl rfl rfl rfl rfl))) fun _ =>
      js_guard (Jt.eq (jt_test (jd_neD (d := .bool (!settledB a b (withO st o) s)) (e := .bool (!settledB a b (withO st o) s)) (jd_call (S := sg_is_touched C) (a, b, st, s, o) ⟨D, ho, hno⟩ (five rfl rfl rfl rfl rfl)) (jd_not (jd_call (S := sg_is_settled C) (a, b, withO st o, s) ⟨⟨D.two, isSet_withO D.hst ho⟩, D.hpt, fun x hx => mem_withO.mpr (.inl (D.sub x hx))⟩ (ja_cons (jd_var (i := 3) rfl) (ja_cons (jd_var (i := 4) rfl) (ja_cons (jd_var (i := 6) rfl) (ja_cons (jd_var (i := 1) rfl) ja_nil)))))) (sh_bool1 _) (sh_bool1 _))) (by simp [PyData.eqv]))
  · have h1 : PyData.eqv (setsD (endsL a b st2 s2)) (sD []) = false := by
      have := eqv_setsD (endsL a b st2 s2) []
      rw [decide_eq_false (M.ends_ne D1 G2)] at this
      exact this
    rw [h1, eq_nilL (List.filter_eq_nil_iff.mpr fun u hu => by simp [M.ends_settled D1 G2 hu])]
    rfl
end Ost
set_option Elab.async false
set_option linter.all false
set_option maxRecDepth 100000
set_option maxHeartbeats 1000000
/-! K18: rules for the law's own body: draws in displays, comprehensions, calls; dicts of typed things. -/
namespace Ost
open PySem PySem.Spec PyProof.Rows L2
open C8 (Cal pe_c Mak pe_mk Met pe_gc)

theorem Js.step {Γ Γ1 : Gm} {s1 s2 : TS} {C1 : Prop} {σ : L2.St} {H : Hp} {D : Ends} (h : Js Γ s1 Γ1 C1 nvT) (ty : Ty Γ σ H) (k : C1 → ∀ σ1 H1, Same H H1 → Ty Γ1 σ1 H1 → s2 D σ1 H1) : tSeq s1 s2 D σ H := h σ H ty _ k fun v H' e p => p.elim
theorem Jm.stepN {Γ Γ1 : Mm} {s1 s2 : TS} {C1 : Prop} {H0 : Hp} {σ : L2.St} {H : Hp} {D : Ends} (h : Jm Γ s1 Γ1 C1 nvT) (ty : TyM H0 Γ σ H) (k : C1 → ∀ σ1 H1, Fra Γ σ H Γ1 σ1 H1 → TyM H0 Γ1 σ1 H1 → s2 D σ1 H1) : tSeq s1 s2 D σ H := h H0 σ H ty _ k fun v H' e p => p.elim

section
variable {Γ Γ' Γ1 Γ2 : Mm} {ta tb te : TE} {K : PySem.W.Frag} {R : VT} {d d1 d2 : PyData} {i j : Nat} {C : Cn} {E : XK} {t2 : MT} {b : Bool} {tt : TT}
theorem Fra.put {σ : L2.St} {H : Hp} {v : V} {t : MT} (n : t.isOwn = false) : Fra Γ σ H (Γ.set i (some t)) (σ.set i (some v)) H := fun a o h _ f => ⟨h, f.put fun z => by rw [n] at z; cases z⟩
/-- i, j = (what draws, a new thing) -/
theorem jm_asgTJ (h1 : Je Γ ta d1 Γ1) (n : noL d1 = true) (h2 : Jmv Γ1 tb t2) : Jm Γ (tAsg (tTup (tCons ta (tCons tb tNil))) (gTup K 2 (gCons (gName i) (gCons (gName j) gNil)))) ((Γ1.set i (some (.dat d1))).set j (some t2)) True R := fun H0 σ H ty D kk r =>
  h1 H0 σ H ty _ fun v H1 f1 ty1 p1 => h2 H0 σ H1 ty1 _ fun u H2 e2 p2 n2 => by
    refine ⟨by show 2 ≤ sizeLine; decide, fun p hp => ?_⟩
    have e3 : Same H2 (upd H2 p (.tup [v, u])) := same_upd hp
    have tyA := ty1.put i (t := .dat d1) ⟨n, p1⟩ (fun z => by cases z)
    have fA : Fra Γ1 σ H1 (Γ1.set i (some (.dat d1))) (σ.set i (some v)) H1 := Fra.put rfl
    obtain ⟨a2, b2⟩ := put_mv (i := j) tyA e2 p2 n2
    exact ⟨p, [v, u], rfl, SqT.of upd_same, rfl, v, [u], rfl, u, [], rfl, rfl, kk trivial _ _ (((f1.trans fA).trans b2).trans (Fra.same e3)) (a2.mono e3)⟩
/-- i, j = what draws, what draws -/
theorem jm_par2J (h1 : Je Γ ta d1 Γ1) (n1 : noL d1 = true) (h2 : Je Γ1 tb d2 Γ2) (n2 : noL d2 = true) : Jm Γ (tPar i j (tCons ta (tCons tb tNil))) ((Γ2.set i (some (.dat d1))).set j (some (.dat d2))) True R := fun H0 σ H ty D kk r =>
  h1 H0 σ H ty _ fun v H1 f1 ty1 p1 => h2 H0 σ H1 ty1 _ fun u H2 f2 ty2 p2 => by
    have tyA := ty2.put i (t := .dat d1) ⟨n1, Tp.keep (f2.tups ty1) _ _ n1 p1⟩ (fun z => by cases z)
    have tyB := tyA.put j (t := .dat d2) ⟨n2, p2⟩ (fun z => by cases z)
    exact ⟨v, u, rfl, kk trivial _ H2 (((f1.trans f2).trans (Fra.put rfl)).trans (Fra.put rfl)) tyB⟩
theorem je_orders {l c : Addr} {cs sides : List Int} {n : Int} (hi : Γ[i]? = some (some (.dek l c cs n))) (hb : Jd (vtG Γ) te (dt (.list (sides.map .int)))) (sl : sides.length ≤ 6) (n0 : 0 ≤ n) (n9 : n ≤ 900) (hc : cs.length ≤ 60) :
    Je Γ (tCall (sp__law_orders C) [] E (tCons (tVar i) (tCons te (tCons (tC (.int 3)) tNil)))) (setsD (rowsV cs sides n 3).1) (Γ.set i (some (.dek l c cs (rowsV cs sides n 3).2))) := fun H0 σ H ty Q k => by
  obtain ⟨v, h1, rfl, h2, h3, h4⟩ := ty.at_ i _ hi
  refine ⟨.ref l, h1, hb σ H ty.ty _ fun x H1 e p => ?_⟩
  have h3' : H1 l = some (deckO c n) := e.get h3
  have ty1 := ty.mono e
  have hc1 : H1 c = some (.lst (cs.map V.int)) := ty1.same.get h4
  refine ⟨l, c, cs, n, sides, 3, x, rfl, h3', hc1, hc, p, sl, by omega, n0, n9, fun u H' e' pu => ?_⟩
  obtain ⟨t2, f2⟩ := ty1.write (t' := .dek l c cs (rowsV cs sides n 3).2) (o := deckO c (rowsV cs sides n 3).2) hi rfl rfl h1 (nocode_dK h3') ⟨rfl, h2, upd_same, h4⟩
  exact k u H' (((Fra.same e).trans f2).trans (Fra.same e')) (t2.mono e') pu
/-! ### tests that draw -/
def JtE (Γ : Mm) (tt : TT) (b : Bool) (Γ' : Mm) : Prop := ∀ H0 σ H, TyM H0 Γ σ H → ∀ Q : Bool → Hp → Prop, (∀ H', Fra Γ σ H Γ' σ H' → TyM H0 Γ' σ H' → Q b H') → tt σ H Q
theorem je_test (h : Je Γ te (.bool b) Γ') : JtE Γ (tTest te) b Γ' := fun H0 σ H ty Q k => h H0 σ H ty _ fun v H' f ty' p => ⟨b, tp_bool.mp p, k H' f ty'⟩
theorem je_B (h : Je Γ te (.bool b) Γ') : JtE Γ (tB te) b Γ' := fun H0 σ H ty Q k => h H0 σ H ty _ fun v H' f ty' p => ⟨b, tp_bool.mp p, k H' f ty'⟩
theorem je_not (h : JtE Γ tt b Γ') : JtE Γ (tNot tt) (!b) Γ' := fun H0 σ H ty Q k => h H0 σ H ty _ fun H' f ty' => k H' f ty'
theorem JtE.eq {c : Bool} (h : JtE Γ tt b Γ') (e : b = c) : JtE Γ tt c Γ' := e ▸ h
theorem jm_guardE {s1 : TS} (h : JtE Γ tt false Γ') : Jm Γ (tIfS tt s1 tNext) Γ' True R := fun H0 σ H ty D k r => h H0 σ H ty _ fun H' f ty' => iteF (k trivial σ H' f ty')
/-- .. with a value of an argument's type first -/
theorem je_opA {r : R2} {T : VT} {j : Nat} (hj : Γ[j]? = some (some (.arg T))) (hj' : Γ1[j]? = some (some (.arg T))) (h2 : Je Γ tb d2 Γ1) (hr : ∀ x y H (Q : VK), T.P x H → Tp H d2 y → (∀ v H2, Same H H2 → Tp H2 d v → Q v H2) → r x y H Q) : Je Γ (tOp r (tVar j) tb) d Γ1 := fun H0 σ H ty Q k => by
  obtain ⟨x, hx, px⟩ := ty.at_ j _ hj
  refine ⟨x, hx, h2 H0 σ H ty _ fun y H2 f2 ty2 p2 => hr x y H2 Q ?_ p2 fun v H3 e p => k v H3 (f2.trans (Fra.same e)) (ty2.mono e) p⟩
  exact T.mono ty2.same px
/-- a call: a value of an argument's type, then what draws -/
theorem je_callA {α : Type} {S : Sg α} {T : VT} {j : Nat} {d : PyData} (x : α) (hd : S.dom x) (hts : S.ts x = [T, dt d1]) (hR : S.R x = dt d) (hj : Γ[j]? = some (some (.arg T))) (h2 : Je Γ tb d1 Γ1) : Je Γ (tCall S.sp [] E (tCons (tVar j) (tCons tb tNil))) d Γ1 := fun H0 σ H ty Q k => by
  obtain ⟨v, hv, pv⟩ := ty.at_ j _ hj
  refine ⟨v, hv, h2 H0 σ H ty _ fun y H2 f2 ty2 p2 => ⟨x, hd, ?_, fun u H3 e p => ?_⟩⟩
  · rw [hts]
    exact ⟨T.mono ty2.same pv, p2, trivial⟩
  · rw [hR] at p
    exact k u H3 (f2.trans (Fra.same e)) (ty2.mono e) p
end

/-! ### a comprehension whose test draws -/
theorem TyM.updF {H0 : Hp} {Γ : Mm} {σ : L2.St} {H : Hp} {D : Addr} {xs : List V} {o : HO} (ty : TyM H0 Γ σ H) (h0 : H0 D = none) (hl : H D = some (.lst xs)) (hf : Foreign Γ σ D) : TyM H0 Γ σ (upd H D o) := ⟨same_mut ty.same h0 (nocode_lst hl), ty.len, fun i t q => by
  obtain ⟨v, h1, h2⟩ := ty.at_ i t q
  exact ⟨v, h1, h2.upd (fun ys z => by rw [hl] at z; cases z) fun so z => hf i t q so (by rw [h1, z])⟩, ty.apart⟩
theorem TyM.outer {H0 : Hp} {Γ : Mm} {σ : L2.St} {H : Hp} {j : Nat} {v : V} {t : MT} (ty : TyM H0 (Γ.set j (some t)) (σ.set j (some v)) H) (hj : Γ[j]? = some none) : TyM H0 Γ σ H := by
  have ne : ∀ {k : Nat} {s : MT}, Γ[k]? = some (some s) → j ≠ k := fun {k s} q z => by subst z; rw [hj] at q; cases q
  have up : ∀ {k : Nat} {s : MT}, Γ[k]? = some (some s) → (Γ.set j (some t))[k]? = some (some s) := fun {k s} q => by rw [List.getElem?_set_ne (ne q)]; exact q
  refine ⟨ty.same, by have := ty.len; rwa [List.length_set, List.length_set] at this, fun k s q => ?_, fun k m s u x hkm hk hm so uo hx => ?_⟩
  · obtain ⟨w, h1, h2⟩ := ty.at_ k s (up q)
    rw [List.getElem?_set_ne (ne q)] at h1
    exact ⟨w, h1, h2⟩
  · have := ty.apart k m s u x hkm (up hk) (up hm) so uo (by rw [List.getElem?_set_ne (ne hk)]; exact hx)
    rwa [List.getElem?_set_ne (ne hm)] at this
theorem Foreign.outer {Γ : Mm} {σ : L2.St} {a : Addr} {j : Nat} {v : V} {t : MT} (f : Foreign (Γ.set j (some t)) (σ.set j (some v)) a) (hj : Γ[j]? = some none) : Foreign Γ σ a := fun k s q so => by
  have ne : j ≠ k := fun z => by subst z; rw [hj] at q; cases q
  have := f k s (by rw [List.getElem?_set_ne ne]; exact q) so
  rwa [List.getElem?_set_ne ne] at this
theorem je_lcR {Γs : Nat → Mm} {K : PySem.W.Frag} {te0 : TE} {tt : TT} {hi j : Nat} {p : Nat → Bool} (hj : ∀ i, (Γs i)[j]? = some none) (hs : Jd (vtG (Γs 0)) te0 (dt (.int hi))) (hl : hi ≤ 1000)
    (hb : ∀ i : Nat, i < hi → JtE ((Γs i).set j (some (.dat (.int i)))) tt (p i) ((Γs (i + 1)).set j (some (.dat (.int i))))) :
    Je (Γs 0) (tCB (rTupQ K) (tCons (tLc (iRng1 (tCons te0 tNil)) (gName j) tt (tVar j) [j]) tNil)) (sD (((List.range hi).filter p).map fun (i : Nat) => (i : Int))) (Γs hi) := fun H0 σ H ty Q k => by
  refine hs σ H ty.ty _ fun x0 H1 e1 p1 => ?_
  have := of_int p1
  subst this
  refine ⟨(hi : Int), rfl, by omega, by omega, fun D hD => ?_⟩
  have ty1 := ty.mono e1
  have h0 : H0 D = none := ty1.same.free hD
  let L : Nat → List V := fun i => ((List.range i).filter p).map fun (i : Nat) => V.int (i : Int)
  have hw : ∀ x : V, (L2.wipe σ [j]).set j (some x) = σ.set j (some x) := fun x => by
    show ((L2.wipe σ []).set j none).set j (some x) = _
    rw [List.set_set]
    rfl
  have hww : ∀ x : V, L2.wipe (σ.set j (some x)) [j] = L2.wipe σ [j] := fun x => by
    show (L2.wipe (σ.set j (some x)) []).set j none = (L2.wipe σ []).set j none
    show (σ.set j (some x)).set j none = σ.set j none
    rw [List.set_set]
  let Pv : Nat → Hp → Prop := fun i H' => H' D = some (.lst (L i)) ∧ Foreign (Γs i) σ D ∧ TyM H0 (Γs i) σ H' ∧ Fra (Γs 0) σ H1 (Γs i) σ H'
  have lenL : ∀ i, (L i).length ≤ i := fun i => by
    show (((List.range i).filter p).map _).length ≤ i
    rw [List.length_map]
    exact Nat.le_trans (List.length_filter_le _ _) (by rw [List.length_range]; exact Nat.le_refl _)
  have step : ∀ i (Ha : Hp), i < hi → Pv i Ha → tt (σ.set j (some (.int (i : Int)))) Ha fun b H3 => if b = true then tVar j (σ.set j (some (.int (i : Int)))) H3 fun y H4 => ∃ acc, H4 D = some (.lst acc) ∧ acc.length < sizeLine ∧ Pv (i + 1) (upd H4 D (.lst (acc ++ [y]))) else Pv (i + 1) H3 := by
    intro i Ha hlt ⟨hd, hf, ty', hfr⟩
    have tyb := ty'.put j (t := .dat (.int i)) (v := .int (i : Int)) ⟨noL_int _, tp_int.mpr rfl⟩ (fun z => by cases z)
    have fb : Fra (Γs i) σ Ha ((Γs i).set j (some (.dat (.int i)))) (σ.set j (some (.int (i : Int)))) Ha := Fra.put rfl
    refine hb i hlt H0 _ Ha tyb _ fun H3 f3 ty3 => ?_
    obtain ⟨hd3, hf3⟩ := f3 D _ hd rfl (fb D _ hd rfl hf).2
    have hf3' : Foreign (Γs (i + 1)) σ D := hf3.outer (hj _)
    have ty3' : TyM H0 (Γs (i + 1)) σ H3 := ty3.outer (hj _)
    have fr3 : Fra (Γs 0) σ H1 (Γs (i + 1)) σ H3 := fun a o h n f => by
      obtain ⟨q1, q2⟩ := hfr a o h n f
      obtain ⟨q3, q4⟩ := fb a o q1 n q2
      obtain ⟨q5, q6⟩ := f3 a o q3 n q4
      exact ⟨q5, q6.outer (hj _)⟩
    have lr : (List.range (i + 1)).filter p = (List.range i).filter p ++ if p i = true then [i] else [] := by
      rw [List.range_succ, List.filter_append]
      congr 1
      by_cases h : p i = true
      · rw [if_pos h, List.filter_cons_of_pos h]; rfl
      · rw [if_neg h, List.filter_cons_of_neg h]; rfl
    cases hp : p i with
    | true =>
      refine iteT ?_
      have hlen : j < σ.length := by
        rw [← ty'.len]
        exact (List.getElem?_eq_some_iff.mp (hj i)).1
      refine ⟨.int (i : Int), List.getElem?_set_self hlen, L i, hd3, small1000 (by have := lenL i; omega), ?_, hf3', ty3'.updF h0 hd3 hf3', fun a o h n f => ?_⟩
      · rw [upd_same]
        show some (HO.lst (L i ++ [V.int (i : Int)])) = some (HO.lst (((List.range (i + 1)).filter p).map fun (i : Nat) => V.int (i : Int)))
        rw [lr, hp, if_pos rfl, List.map_append]
        rfl
      · obtain ⟨q1, q2⟩ := fr3 a o h n f
        exact ⟨by rw [upd_ne (fun z => by rw [z, hD] at h; cases h)]; exact q1, q2⟩
    | false =>
      refine iteF ⟨?_, hf3', ty3', fr3⟩
      rw [hd3]
      show some (HO.lst (L i)) = some (HO.lst (((List.range (i + 1)).filter p).map fun (i : Nat) => V.int (i : Int)))
      rw [lr, hp, if_neg (by simp), List.append_nil]
  have st0 : Pv 0 (upd H1 D (.lst [])) := by
    have eN : Same H1 (upd H1 D (.lst [])) := same_upd hD
    exact ⟨upd_same, foreign_none ty1 hD, ty1.mono eN, Fra.same eN⟩
  refine ⟨fun i m H' => m = hi - i ∧ i ≤ hi ∧ Pv i H', ⟨hi, by simp, Nat.zero_le _, st0⟩, ?_⟩
  rintro i m Ha ⟨rfl, hle, pv⟩
  by_cases hlt : i < hi
  · refine .inr ⟨by show i < (((hi : Nat) : Int)).toNat; omega, Pv (i + 1), fun H' p' => ⟨hi - (i + 1), by omega, rfl, hlt, p'⟩, fun x H' y => ?_⟩
    obtain ⟨ex, ey⟩ := y
    subst ex ey
    have e0 : (0 : Int) + (i : Int) = (i : Int) := Int.zero_add _
    rw [e0]
    show (fun σ2 H2 => L2.wipe σ2 [j] = L2.wipe σ [j] ∧ tt σ2 H2 _) ((L2.wipe σ [j]).set j (some (.int (i : Int)))) _
    rw [hw]
    exact ⟨hww _, step i _ hlt pv⟩
  · have : i = hi := by omega
    subst this
    obtain ⟨hd, hf, ty', hfr⟩ := pv
    refine .inl ⟨by show (((i : Nat) : Int)).toNat ≤ i; omega, D, L i, rfl, .inl ⟨SqL.of hd, fun l hn => ?_⟩⟩
    have e5 : Same Ha (upd Ha l (.tup (L i))) := same_upd hn
    refine k _ _ (((Fra.same e1).trans hfr).trans (Fra.same e5)) (ty'.mono e5) (tp_sD.mpr ⟨l, rfl, ?_⟩)
    rw [upd_same, List.map_map]
    rfl

/-! ### a dict of typed things at a known place -/
def strA (l : Addr) (m : List (PySem.Str × VT)) : VT := ⟨fun v H => v = .ref l ∧ ∃ kvs, H l = some (.dK kvs) ∧ kvs.length ≤ m.length ∧ ∀ p ∈ m, ∃ u, valV kvs (Sum.inr p.1) = some u ∧ p.2.P u H, fun e h => by
  obtain ⟨h1, kvs, h2, hl, h3⟩ := h
  exact ⟨h1, kvs, e.get h2, hl, fun p hp => by obtain ⟨u, a, b⟩ := h3 p hp; exact ⟨u, a, p.2.mono e b⟩⟩⟩
theorem strA_T {l : Addr} {m : List (PySem.Str × VT)} {v : V} {H : Hp} (h : (strA l m).P v H) : (strT m).P v H := by
  obtain ⟨h1, kvs, h2, _, h3⟩ := h
  exact ⟨l, kvs, h1, h2, h3⟩
/-- a type that stays where a dict of plain keys at d is erased -/
def ErS (d : Addr) (t : VT) : Prop := ∀ (v : V) (H : Hp) (kvs : List (Key × V)), H d = some (.dK kvs) → t.P v H → t.P v (er H d)
theorem DkS.er {t : VT} (h : DkS t) (d : Addr) : ErS d t := fun v H kvs hd p => h v H d kvs hd p
theorem er_strA {l d : Addr} {m : List (PySem.Str × VT)} (ne : l ≠ d) (hm : ∀ p ∈ m, DkS p.2) : ErS d (strA l m) := fun v H kvs hd h => by
  obtain ⟨h1, ks, h2, hl, h3⟩ := h
  exact ⟨h1, ks, by rw [er_ne ne]; exact h2, hl, fun p hp => by obtain ⟨u, a, b⟩ := h3 p hp; exact ⟨u, a, hm p hp u H d kvs hd b⟩⟩
theorem er_deck {l c d : Addr} {cs : List Int} {n : Int} (ne : l ≠ d) : ErS d (deckT l c cs n) := fun v H kvs hd h => by
  obtain ⟨h1, h2, h3⟩ := h
  exact ⟨h1, by rw [er_ne ne]; exact h2, er_get hd h3 fun _ z => by cases z⟩
/-- types at a heap with a dict of plain keys written -/
theorem Ty.writeK {Γ : Gm} {σ : L2.St} {H : Hp} {d : Addr} {kvs ks : List (Key × V)} (ty : Ty Γ σ H) (hd : H d = some (.dK kvs)) (h : ∀ (i : Nat) (t : VT), Γ[i]? = some (some t) → ErS d t) : Ty Γ σ (upd H d (.dK ks)) := ⟨ty.len, fun i t q => by
  obtain ⟨v, h1, h2⟩ := ty.at_ i t q
  exact ⟨v, h1, t.mono er_same (h i t q v H kvs hd h2)⟩⟩
/-- all slots' types, in one go -/
def ErAll (d : Addr) : Gm → Prop
  | [] => True
  | none :: Γ => ErAll d Γ
  | some t :: Γ => ErS d t ∧ ErAll d Γ
theorem ErAll.at_ {d : Addr} : ∀ {Γ : Gm}, ErAll d Γ → ∀ (i : Nat) (t : VT), Γ[i]? = some (some t) → ErS d t
  | [], _, i, t, q => by simp at q
  | none :: Γ, h, 0, t, q => by simp at q
  | some u :: Γ, h, 0, t, q => by
    have : u = t := by simpa using q
    subst this
    exact h.1
  | none :: Γ, h, i + 1, t, q => ErAll.at_ (Γ := Γ) h i t (by simpa using q)
  | some u :: Γ, h, i + 1, t, q => ErAll.at_ (Γ := Γ) h.2 i t (by simpa using q)
/-- a body's own deck again: all else are arguments -/
def UpM (d : Addr) : Gm → Mm → Prop
  | [], [] => True
  | _ :: G, none :: Γ => UpM d G Γ
  | some t :: G, some (.arg u) :: Γ => t = u ∧ ErS d t ∧ UpM d G Γ
  | some t :: G, some (.dek l c cs n) :: Γ => l = d ∧ t = deckT l c cs n ∧ UpM d G Γ
  | _, _ => False
theorem UpM.len {d : Addr} : ∀ {G : Gm} {Γ : Mm}, UpM d G Γ → Γ.length = G.length
  | [], [], _ => rfl
  | _ :: G, none :: Γ, h => by rw [List.length_cons, List.length_cons, UpM.len (G := G) (Γ := Γ) (by cases ‹Option VT› <;> exact h)]
  | some t :: G, some (.arg u) :: Γ, h => by rw [List.length_cons, List.length_cons, UpM.len h.2.2]
  | some t :: G, some (.dek l c cs n) :: Γ, h => by rw [List.length_cons, List.length_cons, UpM.len h.2.2]
theorem UpM.at_ {d : Addr} : ∀ {G : Gm} {Γ : Mm}, UpM d G Γ → ∀ (i : Nat) (t : MT), Γ[i]? = some (some t) → (∃ u, t = .arg u ∧ ErS d u ∧ G[i]? = some (some u)) ∨ ∃ c cs n, t = .dek d c cs n ∧ G[i]? = some (some (deckT d c cs n))
  | [], [], _, i, t, q => by simp at q
  | _ :: G, none :: Γ, h, 0, t, q => by simp at q
  | _ :: G, none :: Γ, h, i + 1, t, q => by
    have h2 : UpM d G Γ := by cases ‹Option VT› <;> exact h
    simpa using UpM.at_ h2 i t (by simpa using q)
  | some w :: G, some (.arg u) :: Γ, h, 0, t, q => by
    have e : MT.arg u = t := by simpa using q
    subst e
    obtain ⟨rfl, h1, _⟩ := h
    exact .inl ⟨w, rfl, h1, rfl⟩
  | some w :: G, some (.arg u) :: Γ, h, i + 1, t, q => by simpa using UpM.at_ h.2.2 i t (by simpa using q)
  | some w :: G, some (.dek l c cs n) :: Γ, h, 0, t, q => by
    have e : MT.dek l c cs n = t := by simpa using q
    subst e
    obtain ⟨rfl, rfl, _⟩ := h
    exact .inr ⟨c, cs, n, rfl, rfl⟩
  | some w :: G, some (.dek l c cs n) :: Γ, h, i + 1, t, q => by simpa using UpM.at_ h.2.2 i t (by simpa using q)
theorem tym_up {d : Addr} {G : Gm} {Γ : Mm} {σ : L2.St} {H : Hp} {kvs : List (Key × V)} {k : Nat} (ty : Ty G σ H) (hd : H d = some (.dK kvs)) (u : UpM d G Γ) (one : ∀ (i : Nat) (t : MT), Γ[i]? = some (some t) → t.isOwn = true → i = k) : TyM (er H d) Γ σ H := by
  refine ⟨er_le, by rw [u.len, ty.len], fun i t q => ?_, fun i j s t v hij hi hj so tO => absurd ((one i s hi so).trans (one j t hj tO).symm) hij⟩
  rcases u.at_ i t q with ⟨w, rfl, h1, h2⟩ | ⟨c, cs, n, rfl, h2⟩
  · obtain ⟨v, h3, h4⟩ := ty.at_ i w h2
    exact ⟨v, h3, h1 v H kvs hd h4⟩
  · obtain ⟨v, h3, rfl, h5, h6⟩ := ty.at_ i _ h2
    exact ⟨_, h3, rfl, er_self, h5, er_get hd h6 fun _ z => by cases z⟩
/-! ### {"a": x, "b": y, "c": z} to a name -/
theorem disp3 {Γ : Gm} {σ : L2.St} {H : Hp} {D : Ends} {i : Nat} {t1 t2 t3 : TE} {k1 k2 k3 : PySem.Str} {T1 T2 T3 : VT} (ty : Ty Γ σ H) (h1 : Jd Γ t1 T1) (h2 : Jd Γ t2 T2) (h3 : Jd Γ t3 T3)
    (n12 : decide ((Sum.inr k1 : Key) = Sum.inr k2) = false) (n13 : decide ((Sum.inr k1 : Key) = Sum.inr k3) = false) (n23 : decide ((Sum.inr k2 : Key) = Sum.inr k3) = false)
    (d1 : DkS T1) (d2 : DkS T2) (d3 : DkS T3)
    (k : ∀ l H', Same H H' → H l = none → Ty (Γ.set i (some (strA l [(k1, T1), (k2, T2), (k3, T3)]))) (σ.set i (some (.ref l))) H' → D.nx (σ.set i (some (.ref l))) H') :
    tAsg (tDisp [(tC (.str k1), t1), (tC (.str k2), t2), (tC (.str k3), t3)]) (gName i) D σ H := by
  refine fun p hp => ?_
  have e0 : Same H (upd H p (.dK [])) := same_upd hp
  refine h1 σ _ (ty.mono e0) _ fun x H1 e1 p1 => h2 σ H1 ((ty.mono e0).mono e1) _ fun y H2 e2 p2 => h3 σ H2 (((ty.mono e0).mono e1).mono e2) _ fun z H3 e3 p3 => ?_
  have hp3 : H3 p = some (.dK []) := ((e1.trans e2).trans e3).get upd_same
  let kvs : List (Key × V) := [(Sum.inr k1, x), (Sum.inr k2, y), (Sum.inr k3, z)]
  have mk : mergeK [] kvs = kvs := by
    unfold mergeK
    show putK (putK (putK [] (Sum.inr k1) x) (Sum.inr k2) y) (Sum.inr k3) z = kvs
    unfold putK
    simp [kvs, of_decide_eq_false n12, of_decide_eq_false n13, of_decide_eq_false n23]
  refine ⟨hp3, kvs, rfl, by show 3 ≤ 15; decide, ?_⟩
  rw [mk]
  have eH : Same H H3 := ((e0.trans e1).trans e2).trans e3
  have eW : Same (er H3 p) (upd H3 p (.dK kvs)) := er_same
  have q1 : T1.P x (upd H3 p (.dK kvs)) := T1.mono eW (d1 x H3 p [] hp3 (T1.mono e3 (T1.mono e2 p1)))
  have q2 : T2.P y (upd H3 p (.dK kvs)) := T2.mono eW (d2 y H3 p [] hp3 (T2.mono e3 p2))
  have q3 : T3.P z (upd H3 p (.dK kvs)) := T3.mono eW (d3 z H3 p [] hp3 p3)
  have eF : Same H (upd H3 p (.dK kvs)) := same_mut eH hp (nocode_dK hp3)
  refine k p _ eF hp ((ty.mono eF).set i ⟨rfl, kvs, upd_same, Nat.le_refl 3, fun r hr => ?_⟩)
  have v1 : valV kvs (Sum.inr k1) = some x := valV_pos rfl
  have v2 : valV kvs (Sum.inr k2) = some y := (valV_neg (of_decide_eq_false n12)).trans (valV_pos rfl)
  have v3 : valV kvs (Sum.inr k3) = some z := (valV_neg (of_decide_eq_false n13)).trans ((valV_neg (of_decide_eq_false n23)).trans (valV_pos rfl))
  rcases List.mem_cons.mp hr with rfl | hr
  · exact ⟨x, v1, q1⟩
  rcases List.mem_cons.mp hr with rfl | hr
  · exact ⟨y, v2, q2⟩
  rw [List.mem_singleton.mp hr]
  exact ⟨z, v3, q3⟩
/-- w["k"] = x, at a known place -/
theorem put_strA {Γ : Gm} {σ : L2.St} {H : Hp} {D : Ends} {i : Nat} {l : Addr} {te : TE} {kk : PySem.Str} {T : VT} {m : List (PySem.Str × VT)} (ty : Ty Γ σ H) (hi : Γ[i]? = some (some (strA l m))) (h : Jd Γ te T) (dT : DkS T) (dm : ∀ p ∈ m, DkS p.2) (ml : m.length ≤ 100) (nk : ∀ p ∈ m, decide ((Sum.inr p.1 : Key) = Sum.inr kk) = false)
    (dG : ∀ (j : Nat) (t : VT), (Γ.set i none)[j]? = some (some t) → ErS l t) (k : ∀ H', Ty (Γ.set i (some (strA l (m ++ [(kk, T)])))) σ H' → D.nx σ H') : sDPut (tVar i) (tC (.str kk)) te D σ H := by
  refine h σ H ty _ fun x H1 e1 p1 => ?_
  have ty1 := ty.mono e1
  obtain ⟨v, hv, rfl, kvs, h2, hl, h3⟩ := ty1.at_ i _ hi
  refine ⟨.ref l, hv, ?_⟩
  have put := DPut.k (k := (Sum.inr kk : Key)) (v := x) h2 (Nat.lt_of_le_of_lt (Nat.le_trans hl ml) (by decide : 100 < sizeLine))
  refine ⟨l, _, rfl, put, k _ ?_⟩
  have eW : Same (er H1 l) (upd H1 l (.dK (putK kvs (Sum.inr kk) x))) := er_same
  refine ⟨by rw [List.length_set]; exact ty1.len, fun j t q => ?_⟩
  rcases set_at q with ⟨rfl, e⟩ | ⟨ne, q'⟩
  · cases e
    refine ⟨.ref l, hv, rfl, _, upd_same, ?_, fun p hp => ?_⟩
    · have : ∀ (c : List (Key × V)) (k : Key) (x : V), (putK c k x).length ≤ c.length + 1 := fun c k x => by
        unfold putK
        split
        · rw [List.length_map]; omega
        · rw [List.length_append]; exact Nat.le_refl _
      have := this kvs (Sum.inr kk) x
      rw [List.length_append, List.length_singleton]
      omega
    · rcases List.mem_append.mp hp with hp | hp
      · obtain ⟨u, a, b⟩ := h3 p hp
        refine ⟨u, ?_, p.2.mono eW (dm p hp u H1 l kvs h2 b)⟩
        rw [valV_put, if_neg (of_decide_eq_false (nk p hp))]
        exact a
      · rw [List.mem_singleton.mp hp]
        refine ⟨x, ?_, T.mono eW (dT x H1 l kvs h2 p1)⟩
        rw [valV_put, if_pos rfl]
  · obtain ⟨w, a, b⟩ := ty1.at_ j t q'
    exact ⟨w, a, t.mono eW (dG j t (by rw [List.getElem?_set_ne ne]; exact q') w H1 kvs h2 b)⟩
end Ost
set_option Elab.async false
set_option linter.all false
set_option maxRecDepth 100000
set_option maxHeartbeats 1000000
/-! M10: the law's market: drawn rows are lists; lots. -/
namespace Ost
open PySem (PyData)

/-! ### drawn orders are orders -/
theorem erase_perm : ∀ (l : List Int) (i : Nat) (h : i < l.length), (l[i] :: l.eraseIdx i).Perm l
  | [], i, h => absurd h (by simp)
  | x :: l, 0, h => List.Perm.refl _
  | x :: l, i + 1, h => by
    have h' : i < l.length := by simpa using h
    show (l[i] :: x :: l.eraseIdx i).Perm (x :: l)
    exact (List.Perm.swap x l[i] _).trans ((erase_perm l i h').cons x)
theorem pick_perm {cs : List Int} : ∀ (f : Nat) (n : Int) (mine : List Int), mine.length = f → (pickL cs f n mine).Perm mine
  | 0, n, mine, h => by rw [List.length_eq_zero_iff.mp h]; exact List.Perm.refl _
  | f + 1, n, mine, h => by
    have b0 : (0 : Int) < mine.length := by omega
    have z0 := drawV_0 (cs := cs) (n := n) b0
    have z1 := drawV_lt (cs := cs) (n := n) b0
    have lq : (drawV cs n mine.length).toNat < mine.length := by omega
    have e : mine.getD (drawV cs n mine.length).toNat 0 = mine[(drawV cs n mine.length).toNat] := by rw [List.getD_eq_getElem?_getD, List.getElem?_eq_getElem lq]; rfl
    show (mine.getD (drawV cs n mine.length).toNat 0 :: pickL cs f (n + 1) (mine.eraseIdx (drawV cs n mine.length).toNat)).Perm mine
    rw [e]
    have ih := pick_perm (cs := cs) f (n + 1) (mine.eraseIdx (drawV cs n mine.length).toNat) (by rw [List.length_eraseIdx_of_lt lq]; omega)
    exact (List.Perm.cons _ ih).trans (erase_perm mine _ lq)
theorem mem_mine {sides : List Int} {i : Nat} {x : Int} : x ∈ mineOf sides i ↔ (0 ≤ x ∧ x < (sides.length : Int)) ∧ sides.getD x.toNat 0 = (i : Int) := by
  unfold mineOf
  rw [List.mem_map]
  constructor
  · rintro ⟨⟨a, k⟩, h, rfl⟩
    obtain ⟨h1, h2⟩ := List.mem_filter.mp h
    have h3 := List.mem_zipIdx_iff_getElem?.mp h1
    obtain ⟨lt, e⟩ := List.getElem?_eq_some_iff.mp h3
    simp only at lt e
    refine ⟨⟨by omega, by omega⟩, ?_⟩
    simp only [decide_eq_true_eq] at h2
    rw [Int.toNat_natCast, List.getD_eq_getElem?_getD, h3]
    exact h2
  · rintro ⟨⟨h0, h1⟩, h2⟩
    have lt : x.toNat < sides.length := by omega
    refine ⟨(sides[x.toNat], x.toNat), List.mem_filter.mpr ⟨List.mem_zipIdx_iff_getElem?.mpr (List.getElem?_eq_getElem lt), ?_⟩, by simp only; omega⟩
    rw [List.getD_eq_getElem?_getD, List.getElem?_eq_getElem lt] at h2
    simp only [decide_eq_true_eq]
    exact h2
theorem mine_nodup (sides : List Int) (i : Nat) : (mineOf sides i).Nodup := by
  unfold mineOf
  unfold List.Nodup
  rw [List.pairwise_map]
  refine List.Pairwise.filter _ ?_
  have h : (sides.zipIdx.map Prod.snd).Pairwise (· < ·) := by rw [List.zipIdx_map_snd]; exact List.pairwise_lt_range'
  rw [List.pairwise_map] at h
  exact h.imp fun {a b} h e => by omega
theorem rowsV_get {cs sides : List Int} {n : Int} : ∀ (m i : Nat), i < m → ∃ k, (rowsV cs sides n m).1[i]? = some (pickL cs (mineOf sides i).length k (mineOf sides i))
  | 0, i, h => by omega
  | m + 1, i, h => by
    show ∃ k, ((rowsV cs sides n m).1 ++ [_])[i]? = _
    by_cases e : i < m
    · obtain ⟨k, hk⟩ := rowsV_get (cs := cs) (sides := sides) (n := n) m i e
      exact ⟨k, by rw [List.getElem?_append_left (by rw [rowsV_len]; exact e)]; exact hk⟩
    · have : i = m := by omega
      subst this
      refine ⟨(rowsV cs sides n i).2, ?_⟩
      rw [List.getElem?_append_right (by rw [rowsV_len]; exact Nat.le_refl _), rowsV_len, Nat.sub_self]
      rfl
theorem rows_lists {cs sides : List Int} {n : Int} (hs : ∀ x ∈ sides, 0 ≤ x ∧ x < 3) : Lists sides.length (fun x => sides.getD x.toNat 0) (rowsV cs sides n 3).1 := by
  have at_ : ∀ (i : Nat) (row : List Int), (rowsV cs sides n 3).1[i]? = some row → row.Perm (mineOf sides i) := fun i row h => by
    have lt := (List.getElem?_eq_some_iff.mp h).1
    rw [rowsV_len] at lt
    obtain ⟨k, hk⟩ := rowsV_get (cs := cs) (sides := sides) (n := n) 3 i lt
    rw [hk] at h
    cases h
    exact pick_perm _ _ _ rfl
  refine ⟨fun row h => ?_, fun i row h x => ?_, fun x hx => ?_⟩
  · obtain ⟨i, hi⟩ := List.getElem?_of_mem h
    exact (at_ i row hi).nodup_iff.mpr (mine_nodup _ _)
  · rw [(at_ i row h).mem_iff, mem_mine]
  · rw [rowsV_len]
    have lt : x.toNat < sides.length := by omega
    have := hs (sides[x.toNat]) (List.getElem_mem lt)
    rw [List.getD_eq_getElem?_getD, List.getElem?_eq_getElem lt]
    show 0 ≤ sides[x.toNat] ∧ sides[x.toNat] < ((3 : Nat) : Int)
    exact ⟨this.1, by omega⟩
theorem rank_0 (p : Int → Int) (rows : List (List Int)) (x : Int) : 0 ≤ rankL p rows x := by
  unfold rankL idxI
  omega
theorem Lists.mkt {n : Nat} {p q : Int → Int} {rows lows : List (List Int)} (A : Lists n p rows) (B : Lists n q lows) : Mkt (chL n rows) (chL n lows) p (rankL p rows) q (rankL q lows) := ⟨A.side, B.side, rfl, rank_0 p rows, rank_0 q lows⟩
theorem Lists.okB {n : Nat} {p : Int → Int} {rows : List (List Int)} (A : Lists n p rows) (h1 : 1 ≤ n) (h6 : n ≤ 6) (hr : rows.length ≤ 60) : ListsOk n rows := by
  have bd : ∀ row ∈ rows, ∀ y ∈ row, 0 ≤ y ∧ y < (n : Int) := fun row h y hy => by
    obtain ⟨i, hi⟩ := List.getElem?_of_mem h
    exact ((A.mem i row hi y).mp hy).1
  refine ⟨h1, h6, hr, A.nd, bd, fun row h => ?_⟩
  have : row.length ≤ (rgI 0 n).length := nodup_le (A.nd row h) fun y hy => mem_rgI.mpr (by have := bd row h y hy; omega)
  rw [rgI_len] at this
  omega
theorem Lists.noSh {n : Nat} {p : Int → Int} {rows : List (List Int)} (A : Lists n p rows) (h6 : n ≤ 6) : NoSh (chL n rows) := ⟨A.side.ok, h6, fun s o hs ho _ => A.side.grow hs (isSet_withO hs ho) fun x hx => mem_withO.mpr (.inl hx)⟩

/-! ### lots -/
def lotIn (L : List (List Int)) (x : Int) : List (List Int) := L ++ L.map fun s => s ++ [x]
def lotsL (st : List Int) : List (List Int) := st.foldl lotIn [[]]
theorem lotsL_snoc (st : List Int) (x : Int) : lotsL (st ++ [x]) = lotIn (lotsL st) x := by
  unfold lotsL
  rw [List.foldl_append]
  rfl
theorem lots_len : ∀ (n : Nat) (st : List Int), st.length = n → (lotsL st).length = 2 ^ n
  | 0, st, h => by rw [List.length_eq_zero_iff.mp h]; rfl
  | n + 1, st, h => by
    rcases List.eq_nil_or_concat st with rfl | ⟨t, o, rfl⟩
    · simp at h
    · rw [List.concat_eq_append] at h ⊢
      rw [List.length_append, List.length_singleton] at h
      rw [lotsL_snoc]
      unfold lotIn
      rw [List.length_append, List.length_map, lots_len n t (by omega)]
      omega
theorem lots_ok : ∀ (n : Nat) (st : List Int), st.length = n → st.Pairwise (· < ·) → ∀ s ∈ lotsL st, s.Pairwise (· < ·) ∧ ∀ x ∈ s, x ∈ st
  | 0, st, h, _, s, hs => by
    rw [List.length_eq_zero_iff.mp h] at hs
    rw [List.mem_singleton.mp hs]
    exact ⟨List.Pairwise.nil, fun x hx => by cases hx⟩
  | n + 1, st, h, pw, s, hs => by
    rcases List.eq_nil_or_concat st with rfl | ⟨t, o, rfl⟩
    · simp at h
    · rw [List.concat_eq_append] at h hs pw ⊢
      rw [List.length_append, List.length_singleton] at h
      rw [lotsL_snoc] at hs
      obtain ⟨pt, po⟩ := asc_snoc.mp pw
      rcases List.mem_append.mp hs with m | m
      · obtain ⟨h1, h2⟩ := lots_ok n t (by omega) pt s m
        exact ⟨h1, fun x hx => List.mem_append_left _ (h2 x hx)⟩
      · obtain ⟨u, hu, rfl⟩ := List.mem_map.mp m
        obtain ⟨h1, h2⟩ := lots_ok n t (by omega) pt u hu
        refine ⟨asc_snoc.mpr ⟨h1, fun x hx => po x (h2 x hx)⟩, fun x hx => ?_⟩
        rcases List.mem_append.mp hx with z | z
        · exact List.mem_append_left _ (h2 x z)
        · exact List.mem_append_right _ z
theorem nil_lots : ∀ (n : Nat) (st : List Int), st.length = n → [] ∈ lotsL st
  | 0, st, h => by rw [List.length_eq_zero_iff.mp h]; exact List.mem_singleton.mpr rfl
  | n + 1, st, h => by
    rcases List.eq_nil_or_concat st with rfl | ⟨t, o, rfl⟩
    · simp at h
    · rw [List.concat_eq_append] at h ⊢
      rw [List.length_append, List.length_singleton] at h
      rw [lotsL_snoc]
      exact List.mem_append_left _ (nil_lots n t (by omega))
/-- agreed: each person at most once -/
theorem Mkt.agreed_nodup {a b : Ch} {p r q t : Int → Int} {s : List Int} (M : Mkt a b p r q t) (hs : IsSet a.n s) : agreedB a b s = true ↔ (s.map p).Nodup ∧ (s.map q).Nodup := by
  have key : ∀ (p : Int → Int), (∀ x ∈ s, ∀ y ∈ s, p x = p y → x = y) ↔ (s.map p).Nodup := fun p => by
    have nd := asc_nodup hs.1
    constructor
    · intro h
      unfold List.Nodup
      rw [List.pairwise_map]
      exact nd.imp_of_mem fun {x y} hx hy ne e => ne (h x hx y hy e)
    · intro h x hx y hy e
      unfold List.Nodup at h
      rw [List.pairwise_map] at h
      by_cases ne : x = y
      · exact ne
      · obtain ⟨i, hi, ei⟩ := List.getElem_of_mem hx
        obtain ⟨j, hj, ej⟩ := List.getElem_of_mem hy
        have hij : i ≠ j := fun z => ne (by subst z; rw [← ei, ← ej])
        rcases Nat.lt_or_gt_of_ne hij with l | l
        · exact absurd (by rw [ei, ej]; exact e) (List.pairwise_iff_getElem.mp h i j hi hj l)
        · exact absurd (by rw [ei, ej]; exact e.symm) (List.pairwise_iff_getElem.mp h j i hj hi l)
  have hsb : IsSet b.n s := by rw [M.bn]; exact hs
  unfold agreedB
  rw [Bool.and_eq_true, decide_eq_true_eq, decide_eq_true_eq, M.A.fix hs, M.B.fix hsb, key p, key q]
/-! ### sorted ints -/
def srtI (s : List Int) : List Int := s.mergeSort (PySem.W.dataLe false PyData.int)
theorem srtI_map (s : List Int) : (s.map PyData.int).mergeSort (PySem.W.dataLe false id) = (srtI s).map PyData.int := by
  unfold srtI
  rw [List.map_mergeSort (s := PySem.W.dataLe false id)]
  intro a _ b _
  rfl
theorem toks_int {a b : Int} (h : PySem.W.keyToks (.int a) = PySem.W.keyToks (.int b)) : a = b := by
  simp only [PySem.W.keyToks] at h
  simpa using h
theorem srtI_perm {s u : List Int} (h : s.Perm u) : srtI s = srtI u :=
  srt_uniq (dataLe_anti PyData.int fun _ _ => toks_int) (((List.mergeSort_perm s _).trans h).trans (List.mergeSort_perm u _).symm) (srt_le PyData.int s) (srt_le PyData.int u)
end Ost
set_option Elab.async false
set_option linter.all false
set_option maxRecDepth 100000
set_option maxHeartbeats 1000000
/-! M11: the law's pairs and what stands, as plain functions. -/
namespace Ost
open PySem PySem.Spec PyProof.Rows L2
def nextP (v : Int × Int) : Int × Int := if v.2 < 2 then (v.1, v.2 + 1) else ((v.1 + 1) % 3, 0)
structure OkP (v : Int × Int) : Prop where
  a0 : 0 ≤ v.1
  a3 : v.1 < 3
  b0 : 0 ≤ v.2
  b3 : v.2 < 3
theorem OkP.next {v : Int × Int} (h : OkP v) : OkP (nextP v) := by
  have h1 := h.a0
  have h2 := h.a3
  have h3 := h.b0
  have h4 := h.b3
  unfold nextP
  split
  · constructor <;> simp only <;> omega
  · constructor <;> simp only <;> omega
def codeP (v : Int × Int) : Int := 3 * v.1 + v.2
theorem code_next {v : Int × Int} (h : OkP v) : codeP (nextP v) = (codeP v + 1) % 9 := by
  have h1 := h.a0
  have h2 := h.a3
  have h3 := h.b0
  have h4 := h.b3
  unfold nextP codeP
  split <;> simp only <;> omega
def itP : Nat → Int × Int → Int × Int
  | 0, v => v
  | j + 1, v => nextP (itP j v)
theorem OkP.it {v : Int × Int} (h : OkP v) : ∀ j, OkP (itP j v)
  | 0 => h
  | j + 1 => (OkP.it h j).next
theorem code_it {v : Int × Int} (h : OkP v) : ∀ j : Nat, codeP (itP j v) = (codeP v + j) % 9
  | 0 => by
    have h1 := h.a0
    have h2 := h.a3
    have h3 := h.b0
    have h4 := h.b3
    show codeP v = _
    unfold codeP
    omega
  | j + 1 => by
    show codeP (nextP (itP j v)) = _
    rw [code_next (h.it j), code_it h j]
    omega
theorem vis_len {v : Int × Int} (h : OkP v) {ps : List (Int × Int)} {j : Nat} (hj : j ≤ 9) (hv : ∀ i, i < j → itP i v ∈ ps) : j ≤ ps.length := by
  have nd : ((List.range j).map fun i => itP i v).Nodup := by
    unfold List.Nodup
    rw [List.pairwise_map]
    refine (List.nodup_range (n := j)).imp_of_mem fun {a b} ha hb ne e => ?_
    have ha := List.mem_range.mp ha
    have hb := List.mem_range.mp hb
    have := congrArg codeP e
    rw [code_it h, code_it h] at this
    omega
  have := nodup_le nd (ys := ps) fun x hx => by
    obtain ⟨i, hi, rfl⟩ := List.mem_map.mp hx
    exact hv i (List.mem_range.mp hi)
  rwa [List.length_map, List.length_range] at this
/-- the next free pair -/
def freeP : Nat → List (Int × Int) → Int × Int → Int × Int
  | 0, _, v => v
  | f + 1, ps, v => if v ∈ ps then freeP f ps (nextP v) else v
theorem freeP_out {ps : List (Int × Int)} {v : Int × Int} (h : v ∉ ps) : ∀ f, freeP f ps v = v
  | 0 => rfl
  | f + 1 => if_neg h
theorem freeP_ok {ps : List (Int × Int)} : ∀ (f : Nat) {v : Int × Int}, OkP v → OkP (freeP f ps v)
  | 0, v, h => h
  | f + 1, v, h => by
    unfold freeP
    split
    · exact freeP_ok f h.next
    · exact h
/-- going on to it -/
structure Seek (ps : List (Int × Int)) (v0 : Int × Int) (x : (Int × Int) × Nat) : Prop where
  to : freeP x.2 ps x.1 = freeP 9 ps v0
  at_ : ∃ j, x.2 + j = 9 ∧ x.1 = itP j v0 ∧ ∀ i, i < j → itP i v0 ∈ ps
theorem Seek.start (ps : List (Int × Int)) (v0 : Int × Int) : Seek ps v0 (v0, 9) := ⟨rfl, 0, rfl, rfl, fun i h => by omega⟩
theorem Seek.ok {ps : List (Int × Int)} {v0 : Int × Int} {x : (Int × Int) × Nat} (S : Seek ps v0 x) (h : OkP v0) : OkP x.1 := by
  obtain ⟨j, _, e, _⟩ := S.at_
  rw [e]
  exact h.it j
theorem Seek.next {ps : List (Int × Int)} {v0 : Int × Int} {x : (Int × Int) × Nat} (S : Seek ps v0 x) (h : OkP v0) (hl : ps.length ≤ 8) (hx : x.1 ∈ ps) : ∃ f, x.2 = f + 1 ∧ Seek ps v0 (nextP x.1, f) := by
  obtain ⟨j, h1, h2, h3⟩ := S.at_
  have h4 : ∀ i, i < j + 1 → itP i v0 ∈ ps := fun i hi => by
    by_cases e : i < j
    · exact h3 i e
    · have : i = j := by omega
      rw [this, ← h2]
      exact hx
  have : x.2 ≠ 0 := fun z => by
    have := vis_len h (j := j) (by omega) h3
    omega
  obtain ⟨f, hf⟩ : ∃ f, x.2 = f + 1 := ⟨x.2 - 1, by omega⟩
  refine ⟨f, hf, ?_, j + 1, by show f + (j + 1) = 9; omega, by show nextP x.1 = nextP (itP j v0); rw [h2], h4⟩
  have := S.to
  rw [hf] at this
  rw [← this]
  show _ = if x.1 ∈ ps then freeP f ps (nextP x.1) else x.1
  rw [if_pos hx]
theorem Seek.done {ps : List (Int × Int)} {v0 : Int × Int} {x : (Int × Int) × Nat} (S : Seek ps v0 x) (hx : x.1 ∉ ps) : x.1 = freeP 9 ps v0 := by rw [← S.to, freeP_out hx]
/-- all pairs -/
def newP (cs : List Int) (k : Int) (ps : List (Int × Int)) : Int × Int := freeP 9 ps (drawV cs k 3, drawV cs (k + 1) 3)
def pairsV (cs : List Int) : Nat → Int → List (Int × Int) → List (Int × Int) × Int
  | 0, k, ps => (ps, k)
  | f + 1, k, ps => pairsV cs f (k + 2) (ps ++ [newP cs k ps])
theorem draw_ok (cs : List Int) (k : Int) : OkP (drawV cs k 3, drawV cs (k + 1) 3) := ⟨drawV_0 (by decide), drawV_lt (by decide), drawV_0 (by decide), drawV_lt (by decide)⟩
theorem newP_ok (cs : List Int) (k : Int) (ps : List (Int × Int)) : OkP (newP cs k ps) := freeP_ok 9 (draw_ok cs k)
structure Pairs (cs : List Int) (n : Nat) (x : List (Int × Int) × Int) : Prop where
  to : ∃ f, f + x.1.length = n ∧ pairsV cs f x.2 x.1 = pairsV cs n 1 []
  ok : ∀ v ∈ x.1, OkP v
  at_ : x.2 = 1 + 2 * (x.1.length : Int)
theorem Pairs.start (cs : List Int) (n : Nat) : Pairs cs n ([], 1) := ⟨⟨n, rfl, rfl⟩, fun v h => (by cases h), rfl⟩
theorem Pairs.next {cs : List Int} {n : Nat} {x : List (Int × Int) × Int} (S : Pairs cs n x) (h : x.1.length < n) : Pairs cs n (x.1 ++ [newP cs x.2 x.1], x.2 + 2) := by
  obtain ⟨f, h1, h2⟩ := S.to
  obtain ⟨g, rfl⟩ : ∃ g, f = g + 1 := ⟨f - 1, by omega⟩
  refine ⟨⟨g, by rw [List.length_append, List.length_singleton]; omega, h2⟩, fun v hv => ?_, ?_⟩
  · rcases List.mem_append.mp hv with z | z
    · exact S.ok v z
    · rw [List.mem_singleton.mp z]
      exact newP_ok _ _ _
  · have := S.at_
    show x.2 + 2 = 1 + 2 * ((x.1 ++ [newP cs x.2 x.1]).length : Int)
    rw [List.length_append, List.length_singleton]
    omega
theorem Pairs.done {cs : List Int} {n : Nat} {x : List (Int × Int) × Int} (S : Pairs cs n x) (h : ¬ x.1.length < n) : x = pairsV cs n 1 [] := by
  obtain ⟨f, h1, h2⟩ := S.to
  have : f = 0 := by omega
  subst this
  exact h2
theorem Pairs.le {cs : List Int} {n : Nat} {x : List (Int × Int) × Int} (S : Pairs cs n x) : x.1.length ≤ n := by
  obtain ⟨f, h1, _⟩ := S.to
  omega
/-- at the end -/
structure PairsEnd (n : Nat) (x : List (Int × Int) × Int) : Prop where
  len : x.1.length = n
  ok : ∀ v ∈ x.1, OkP v
  at_ : x.2 = 1 + 2 * (n : Int)
theorem pairs_end (cs : List Int) (n : Nat) : PairsEnd n (pairsV cs n 1 []) := by
  have key : ∀ (f : Nat) (x : List (Int × Int) × Int), Pairs cs n x → f + x.1.length = n → PairsEnd n (pairsV cs n 1 []) := by
    intro f
    induction f with
    | zero =>
      intro x S h
      have e := S.done (by omega)
      have l := S.at_
      have lx : x.1.length = n := by omega
      rw [← e]
      exact ⟨lx, S.ok, by rw [l, lx]⟩
    | succ f ih =>
      intro x S h
      exact ih _ (S.next (by omega)) (by rw [List.length_append, List.length_singleton]; omega)
  exact key n ([], 1) (Pairs.start cs n) rfl
/-- what stands -/
def stV (cs : List Int) (k : Int) (n : Nat) : List Int := ((List.range n).filter fun (i : Nat) => decide (0 < drawV cs (k + i) 5)).map fun (i : Nat) => (i : Int)
theorem stV_set (cs : List Int) (k : Int) (n : Nat) : IsSet n (stV cs k n) := by
  unfold stV
  refine ⟨?_, fun x hx => ?_⟩
  · rw [List.pairwise_map]
    refine List.Pairwise.filter _ (List.pairwise_lt_range.imp fun {a b} h => by omega)
  · obtain ⟨i, hi, rfl⟩ := List.mem_map.mp hx
    have := List.mem_range.mp (List.mem_filter.mp hi).1
    omega
def prD (v : Int × Int) : PyData := .tuple [.int v.1, .int v.2]
theorem noL_prD (v : Int × Int) : noL (prD v) = true := by unfold prD; rw [noL_tuple, noLs_cons, noLs_cons, noL_int, noL_int]; rfl
theorem noLs_prs (ps : List (Int × Int)) : noLs (ps.map prD) = true := noLs_of fun d hd => by obtain ⟨x, _, rfl⟩ := List.mem_map.mp hd; exact noL_prD x
theorem sh_prD (v : Int × Int) {k : Nat} : Sh (k + 1) (prD v) := sh_tup fun d hd => by
  simp only [List.mem_cons, List.not_mem_nil, or_false] at hd
  rcases hd with rfl | rfl <;> exact sh_int _
theorem sh_prs (ps : List (Int × Int)) : SeqAt.shaped (.list (ps.map prD)) = true := (sh_lst (k := 1) fun d hd => by obtain ⟨s, _, rfl⟩ := List.mem_map.mp hd; exact sh_prD s).ok (by decide)
theorem eqv_prD (u v : Int × Int) : PyData.eqv (prD u) (prD v) = decide (u = v) := by
  unfold prD
  simp only [PyData.eqv, PyData.eqvAll, Bool.and_true, Bool.beq_eq_decide_eq]
  by_cases h1 : u.1 = v.1
  · by_cases h2 : u.2 = v.2
    · rw [decide_eq_true h1, decide_eq_true h2, decide_eq_true (Prod.ext h1 h2)]; rfl
    · rw [decide_eq_false h2, Bool.and_false, decide_eq_false fun z => h2 (by rw [z])]
  · rw [decide_eq_false h1, Bool.false_and, decide_eq_false fun z => h1 (by rw [z])]
theorem any_prs (L : List (Int × Int)) (h : Int × Int) : ((L.map prD).any fun z => PyData.eqv z (prD h)) = decide (h ∈ L) := by
  induction L with
  | nil => simp
  | cons s L ih =>
    rw [List.map_cons, List.any_cons, ih, eqv_prD]
    by_cases e : s = h
    · subst e; simp
    · rw [decide_eq_false e, Bool.false_or]
      simp [Ne.symm e]
theorem eqv_il (s t : List Int) : PyData.eqv (.list (s.map .int)) (.list (t.map .int)) = decide (s = t) := by
  simp only [PyData.eqv]
  exact eqv_ints s t
/-- a loan's people -/
def pA (ps : List (Int × Int)) (x : Int) : Int := (ps.map Prod.fst).getD x.toNat 0
def pB (ps : List (Int × Int)) (x : Int) : Int := (ps.map Prod.snd).getD x.toNat 0
theorem pr_at {ps : List (Int × Int)} {x : Int} (h : 0 ≤ x ∧ x < (ps.length : Int)) : ∃ v, ps[x.toNat]? = some v ∧ pA ps x = v.1 ∧ pB ps x = v.2 := by
  have lt : x.toNat < ps.length := by omega
  refine ⟨ps[x.toNat], List.getElem?_eq_getElem lt, ?_, ?_⟩
  · unfold pA
    rw [List.getD_eq_getElem?_getD, List.getElem?_map, List.getElem?_eq_getElem lt]
    rfl
  · unfold pB
    rw [List.getD_eq_getElem?_getD, List.getElem?_map, List.getElem?_eq_getElem lt]
    rfl
end Ost
set_option Elab.async false
set_option linter.all false
set_option maxRecDepth 100000
set_option maxHeartbeats 2000000
/-! D22: the law. -/
namespace Ost
open PySem PySem.Spec PyProof.Rows L2
open C8 (Cal pe_c Mak pe_mk Met pe_gc)

def OwnAt (k : Nat) : Nat → Mm → Prop
  | _, [] => True
  | i, none :: Γ => OwnAt k (i + 1) Γ
  | i, some t :: Γ => (t.isOwn = true → i = k) ∧ OwnAt k (i + 1) Γ
theorem OwnAt.at_ {k : Nat} : ∀ {Γ : Mm} {n : Nat}, OwnAt k n Γ → ∀ (i : Nat) (t : MT), Γ[i]? = some (some t) → t.isOwn = true → n + i = k
  | [], n, _, i, t, q, _ => by simp at q
  | none :: Γ, n, h, 0, t, q, _ => by simp at q
  | some u :: Γ, n, h, 0, t, q, o => by
    have e : u = t := by simpa using q
    subst e
    exact h.1 o
  | none :: Γ, n, h, i + 1, t, q, o => by
    have := OwnAt.at_ (Γ := Γ) (n := n + 1) h i t (by simpa using q) o
    omega
  | some u :: Γ, n, h, i + 1, t, q, o => by
    have := OwnAt.at_ (Γ := Γ) (n := n + 1) h.2 i t (by simpa using q) o
    omega
theorem OwnAt.one {k : Nat} {Γ : Mm} (h : OwnAt k 0 Γ) (i : Nat) (t : MT) (q : Γ[i]? = some (some t)) (o : t.isOwn = true) : i = k := by
  have := h.at_ i t q o
  omega
theorem er_scr (d : Addr) (K : PySem.W.Frag) (ss : List Int) : ErS d (scrT K ss) := fun v H kvs hd h => by
  obtain ⟨a, h1, h2⟩ := h
  exact ⟨a, h1, h2.imp (fun r => r.elim (fun z => .inl (er_get hd z fun _ e => by cases e)) fun ⟨o, z⟩ => .inr ⟨o, er_get hd z fun _ e => by cases e⟩) id⟩
theorem r_add {K : PySem.W.Frag} {i j : Int} (x y : V) (H : Hp) (Q : VK) (p1 : Tp H (.int i) x) (p2 : Tp H (.int j) y) (k : ∀ v H2, Same H H2 → Tp H2 (.int (i + j)) v → Q v H2) : rAddA K x y H Q := by
  rw [tp_int.mp p1, tp_int.mp p2]
  exact .inl ⟨i, j, rfl, rfl, k _ H (Same.refl H) (tp_int.mpr rfl)⟩
theorem JtE.cast {Γ Γ' Γ2 : Mm} {tt : TT} {b : Bool} (h : JtE Γ tt b Γ') (e : Γ' = Γ2) : JtE Γ tt b Γ2 := e ▸ h
theorem deck_step {K : PySem.W.Frag} {C : Cn} {E : XK} {s2 : TS} {D : Ends} {σ : L2.St} {H : Hp} {v : V} {ss : List Int} (h0 : σ[0]? = some (some v)) (pv : (scrT K ss).P v H) (sl : ss.length ≤ 63)
    (k : ∀ d c H1, Same H H1 → H d = none → H1 d = some (deckO c 0) → H1 c = some (.lst ((deckCs ss).map V.int)) → s2 D (σ.set 1 (some (.ref d))) H1) : tSeq (tAsg (tCall (sp__law_deck K C) [] E (tCons (tVar 0) tNil)) (gName 1)) s2 D σ H := ⟨v, h0, v, ss, rfl, pv, sl, fun d c H1 e1 hd hd1 hc1 => k d c H1 e1 hd hd1 hc1⟩
theorem disp3S {Γ : Gm} {σ : L2.St} {H : Hp} {D : Ends} {s2 : TS} {i : Nat} {t1 t2 t3 : TE} {k1 k2 k3 : PySem.Str} {T1 T2 T3 : VT} (ty : Ty Γ σ H) (h1 : Jd Γ t1 T1) (h2 : Jd Γ t2 T2) (h3 : Jd Γ t3 T3)
    (n12 : decide ((Sum.inr k1 : Key) = Sum.inr k2) = false) (n13 : decide ((Sum.inr k1 : Key) = Sum.inr k3) = false) (n23 : decide ((Sum.inr k2 : Key) = Sum.inr k3) = false) (d1 : DkS T1) (d2 : DkS T2) (d3 : DkS T3)
    (k : ∀ l H', Same H H' → H l = none → Ty (Γ.set i (some (strA l [(k1, T1), (k2, T2), (k3, T3)]))) (σ.set i (some (.ref l))) H' → s2 D (σ.set i (some (.ref l))) H') :
    tSeq (tAsg (tDisp [(tC (.str k1), t1), (tC (.str k2), t2), (tC (.str k3), t3)]) (gName i)) s2 D σ H := disp3 (D := { D with nx := s2 D }) ty h1 h2 h3 n12 n13 n23 d1 d2 d3 k
theorem put_strAS {Γ : Gm} {σ : L2.St} {H : Hp} {D : Ends} {s2 : TS} {i : Nat} {l : Addr} {te : TE} {kk : PySem.Str} {T : VT} {m : List (PySem.Str × VT)} (ty : Ty Γ σ H) (hi : Γ[i]? = some (some (strA l m))) (h : Jd Γ te T) (dT : DkS T) (dm : ∀ p ∈ m, DkS p.2) (ml : m.length ≤ 100) (nk : ∀ p ∈ m, decide ((Sum.inr p.1 : Key) = Sum.inr kk) = false)
    (dG : ∀ (j : Nat) (t : VT), (Γ.set i none)[j]? = some (some t) → ErS l t) (k : ∀ H', Ty (Γ.set i (some (strA l (m ++ [(kk, T)])))) σ H' → s2 D σ H') : tSeq (sDPut (tVar i) (tC (.str kk)) te) s2 D σ H := put_strA (D := { D with nx := s2 D }) ty hi h dT dm ml nk dG k
theorem jd_aget {Γ : Gm} {ta : TE} {l : Addr} {m : List (PySem.Str × VT)} {k : PySem.Str} {t : VT} (h : Jd Γ ta (strA l m)) (hk : (k, t) ∈ m) : Jd Γ (tDGet ta (tC (.str k))) t := jd_sget (Jd.imp h fun v H p => strA_T p) hk
theorem jd_notInB {Γ : Gm} {ta tb : TE} {K : PySem.W.Frag} {w : World} {a b : Ch} {st : List Int} (h1 : Jd Γ ta (bestT a b st)) (h2 : Jd Γ tb (dt (setsD (settledL a b st)))) : Jd Γ (tOp (rNotInA K w) ta tb) (dt (.bool false)) := jd_op h1 h2 fun x y H Q p1 p2 k => by
  obtain ⟨s, hs, ps⟩ := p1
  refine .inl ⟨sD s, (settledL a b st).map sD, Tp.dp _ _ ps, Tp.dp _ _ p2, sh_sD1 s, sh_setsD _, k _ H (Same.refl H) ?_⟩
  rw [any_sets, decide_eq_true hs]
  exact dt_bl _
def sideP (ps : List (Int × Int)) (i x : Int) : Int := if i = 0 then pA ps x else pB ps x
theorem pr_ix {ps : List (Int × Int)} {x : Int} (h : 0 ≤ x ∧ x < (ps.length : Int)) : atI (ps.map prD) x = some (.tuple [.int (pA ps x), .int (pB ps x)]) := by
  obtain ⟨v, hv, e1, e2⟩ := pr_at h
  have e : x = ((x.toNat : Nat) : Int) := by omega
  have := atI_map (f := prD) (atI_nat hv)
  rw [← e] at this
  rw [this, e1, e2]
  rfl
theorem side_ix {ps : List (Int × Int)} {i x : Int} (hi : i = 0 ∨ i = 1) : atI [PyData.int (pA ps x), PyData.int (pB ps x)] i = some (.int (sideP ps i x)) := by
  rcases hi with rfl | rfl
  · exact atI_zero
  · exact atI_nat (j := 1) rfl
theorem alike_i (s : List Int) : PySem.W.AllAlike (s.map PyData.int) := PySem.W.AllAlike.of fun a b => by simp [PySem.W.alike]
theorem sortable_i (s : List Int) : PySem.W.Sortable (s.map PyData.int) := PySem.W.Sortable.others fun b => ⟨fun z => (by cases z), fun xs z => (by cases z)⟩
theorem depth_i (s : List Int) (d : PyData) (h : d ∈ s.map PyData.int) : d.depth ≤ 60 := by
  obtain ⟨x, _, rfl⟩ := List.mem_map.mp h
  simp [PyData.depth]
theorem noLs_i (s : List Int) : noLs (s.map PyData.int) = true := noLs_of fun d hd => by obtain ⟨x, _, rfl⟩ := List.mem_map.mp hd; exact noL_int x
/-- a row of sorted people -/
def woD (ps : List (Int × Int)) (i : Int) (s : List Int) : PyData := .list ((srtI (s.map (sideP ps i))).map .int)
theorem settled_len {a b : Ch} {st : List Int} (h : st.length ≤ 6) : (settledL a b st).length ≤ 64 := Nat.le_trans (List.length_filter_le _ _) (partsL_len h)
theorem r_eqI {K : PySem.W.Frag} {i j : Int} {x y : V} {H : Hp} {Q : VK} (p1 : (dt (.int i)).P x H) (p2 : (dt (.int j)).P y H) (k : Q (.bl (decide (i = j))) H) : rEqD K x y H Q := ⟨.int i, .int j, Tp.dp _ _ p1, Tp.dp _ _ p2, sh_int1 i, sh_int1 j, by
  have : PyData.eqv (.int i) (.int j) = decide (i = j) := by simp only [PyData.eqv, Bool.beq_eq_decide_eq]
  rw [this]
  exact k⟩
/-- all loans' people, for the loans of a set -/
theorem jd_people {Γ : Gm} {K : PySem.W.Frag} {te : TE} {ps : List (Int × Int)} {s : List Int} {i : Int} (hs : ∀ x ∈ s, 0 ≤ x ∧ x < (ps.length : Int)) (hl : s.length ≤ 1000) (hi : i = 0 ∨ i = 1) (h14 : Γ[14]? = some (some (dt (sD s))))
    (h3 : ∀ x : Int, ((wipeG Γ [10]).set 10 (some (dt (.int x))))[3]? = some (some (dt (.list (ps.map prD))))) (h10 : ∀ x : Int, ((wipeG Γ [10]).set 10 (some (dt (.int x))))[10]? = some (some (dt (.int x)))) (hte : ∀ x : Int, Jd ((wipeG Γ [10]).set 10 (some (dt (.int x)))) te (dt (.int i))) :
    Jf Γ (tLc (iSeq K (tVar 14)) (gName 10) tYes (tOp (rIxA K) (tOp (rIxA K) (tVar 3) (tVar 10)) te) [10]) ((s.map (sideP ps i)).map .int) :=
  Jf.eq (jf_lc (xs := s) (Y := fun x => dt (.int x)) (bind := fun x Γ => Γ.set 10 (some (dt (.int x)))) (p := fun _ => true) (q := fun x => .int (sideP ps i x)) (ji_ints (jd_var h14)) (tg_name 10) (fun x hx => jt_yes) (fun x hx _ => jd_ixT (ds := [.int (pA ps x), .int (pB ps x)]) (jd_ixL (ds := ps.map prD) (jd_var (h3 x)) (jd_var (h10 x)) (pr_ix (hs x hx))) (hte x) (side_ix hi)) hl (fun _ _ _ => noL_int _)) (by rw [List.filter_eq_self.mpr (fun _ _ => rfl), List.map_map]; rfl)
theorem je_callB {Γ Γ1 : Mm} {tb : TE} {E : XK} {α : Type} {S : Sg α} {T T2 : VT} {j : Nat} {d d1 : PyData} (x : α) (hd : S.dom x) (hts : S.ts x = [T2, dt d1]) (hR : S.R x = dt d) (hj : Γ[j]? = some (some (.arg T))) (imp : ∀ v H, T.P v H → T2.P v H) (h2 : Je Γ tb d1 Γ1) : Je Γ (tCall S.sp [] E (tCons (tVar j) (tCons tb tNil))) d Γ1 := fun H0 σ H ty Q k => by
  obtain ⟨v, hv, pv⟩ := ty.at_ j _ hj
  refine ⟨v, hv, h2 H0 σ H ty _ fun y H2 f2 ty2 p2 => ⟨x, hd, ?_, fun u H3 e p => ?_⟩⟩
  · rw [hts]
    exact ⟨imp _ _ (T.mono ty2.same pv), p2, trivial⟩
  · rw [hR] at p
    exact k u H3 (f2.trans (Fra.same e)) (ty2.mono e) p
theorem r_ixA {K : PySem.W.Frag} {ds : List PyData} {i : Int} {d : PyData} (h : atI ds i = some d) (x y : V) (H : Hp) (Q : VK) (p1 : (dt (.list ds)).P x H) (p2 : Tp H (.int i) y) (k : ∀ v H2, Same H H2 → Tp H2 d v → Q v H2) : rIxA K x y H Q := by
  obtain ⟨a, xs, rfl, h1, q1⟩ := of_lst p1
  rw [tp_int.mp p2]
  obtain ⟨j, e1, e2⟩ := ix_of h
  obtain ⟨v, e3, p3⟩ := q1.get e2
  exact .inl ⟨a, xs, i, v, rfl, rfl, SqL.of h1, ix_to (by rw [q1.length]; exact e1) e3, k v H (Same.refl H) p3⟩
theorem r_ixB {K : PySem.W.Frag} {ds : List PyData} {i : Int} {d : PyData} (h : atI ds i = some d) (x y : V) (H : Hp) (Q : VK) (p1 : Tp H (.tuple ds) x) (p2 : Tp H (.int i) y) (k : ∀ v H2, Same H H2 → Tp H2 d v → Q v H2) : rIxA K x y H Q := by
  obtain ⟨a, xs, rfl, h1, q1⟩ := tp_tuple.mp p1
  rw [tp_int.mp p2]
  obtain ⟨j, e1, e2⟩ := ix_of h
  obtain ⟨v, e3, p3⟩ := q1.get e2
  exact .inr ⟨a, xs, i, v, rfl, rfl, SqT.of h1, ix_to (by rw [q1.length]; exact e1) e3, k v H (Same.refl H) p3⟩
theorem get_sets {L : List (List Int)} {i : Int} (h0 : 0 ≤ i) (h1 : i < (L.length : Int)) : atI (L.map sD) i = some (sD (L.getD i.toNat [])) ∧ L.getD i.toNat [] ∈ L := by
  have lt : i.toNat < L.length := by omega
  have e : i = ((i.toNat : Nat) : Int) := by omega
  have g : L.getD i.toNat [] = L[i.toNat] := by rw [List.getD_eq_getElem?_getD, List.getElem?_eq_getElem lt]; rfl
  have := atI_map (f := sD) (atI_nat (List.getElem?_eq_getElem lt))
  rw [← e] at this
  rw [g]
  exact ⟨this, List.getElem_mem lt⟩
abbrev N_law : List Str := ["_law_script", "_law_deck_here", "_law_n", "_law_pairs", "_law_pair", "_law_houses", "_law_takers", "_law_a", "_law_b", "_law_standing", "_law_x", "_law_w", "_law_side", "_law_with_one", "_law_some", "_law_lots", "_law_fine", "_law_turn", "_law_part"]
theorem sc_law : FnScope N_law ["_law_script"] (defScope s_law) := ⟨rfl, rfl, rfl, by decide +kernel, rfl, by decide +kernel, by decide +kernel⟩
def sp_law (K : PySem.W.Frag) (C : Cn) : Sp := fun vs H Q _ => ∃ (v : V) (ss : List Int), vs = [v] ∧ (scrT K ss).P v H ∧ ss.length ≤ 63 ∧ Tab C H ∧ ∀ H', Q (.bl true) H'
theorem ok_law {P : Program} {w : World} {K : PySem.W.Frag} {mg : Str → Option Value} {base : Heap} {C : Cn} {f : Addr} {fd : FuncData} (F : FunD K "law" "law" (defArgs s_law) (defBody s_law) (defScope s_law) [] [] f fd) (T : Top K mg C) (c__law_deck : Cal P w K mg base 1 "_law_deck" (sp__law_deck K C) []) (c_settled_sets : Cal P w K mg base 6 "settled_sets" (sp_settled_sets C) []) (c__law_orders : Cal P w K mg base 2 "_law_orders" (sp__law_orders C) []) (c_by_lists : Cal P w K mg base 5 "by_lists" (sp_by_lists C) []) (c_does_shrink : Cal P w K mg base 4 "does_shrink" (sp_does_shrink C) []) (c_best_settled : Cal P w K mg base 6 "best_settled" (sp_best_settled C) []) (c__law_draw : Cal P w K mg base 1 "_law_draw" (sp__law_draw C) []) (c_is_agreed : Cal P w K mg base 5 "is_agreed" (sp_is_agreed C) []) (c__law_part_right : Cal P w K mg base 9 "_law_part_right" (sp__law_part_right C) []) (c__law_change_right : Cal P w K mg base 9 "_law_change_right" (sp__law_change_right C) []) : FnOk P w K mg base L2.CX0 10 f fd ["_law_script"] (sp_law K C) := by
  refine F.ok sc_law (fun vs H Q E h => ?_) (fun cdv A outer s H vs Q E hr h => ⟨_, PSs.nox ((pss_cons (ps_set (i := 1) sc_law.nd rfl (Or.inr rfl) (pe_c c__law_deck hr (by decide) (by rfl) (pa_cons (pv 0) pa_nil)))
    (pss_cons (ps_asg (pe_tup (pa_cons (pe_op (o_add (K := K) rfl) pe_int (pe_c c__law_draw hr (by decide) (by rfl) (pa_cons (pv 1) (pa_cons pe_int pa_nil)))) (pa_cons (pe_lst pa_nil) pa_nil))) (g_tup (K := K) (n := 2) rfl (by rfl) (pgs_cons (pg_name (i := 2) sc_law.nd rfl (Or.inl rfl)) (pgs_cons (pg_name (i := 3) sc_law.nd rfl (Or.inr rfl)) pgs_nil))))
    (pss_cons (ps_while PassesOwn.never (pt_cmpR op_lt (pe_callB (c_len (K := K) rfl) (by rfl) T.len_ boot_len (pa_cons (pv 3) pa_nil)) (pv 2) (nomark _)) (pss_cons (ps_set (i := 4) sc_law.nd rfl (Or.inl rfl) (pe_tup (pa_cons (pe_c c__law_draw hr (by decide) (by rfl) (pa_cons (pv 1) (pa_cons pe_int pa_nil))) (pa_cons (pe_c c__law_draw hr (by decide) (by rfl) (pa_cons (pv 1) (pa_cons pe_int pa_nil))) pa_nil))))
    (pss_cons (ps_while PassesOwn.never (pt_cmpR (o_in (K := K) (w := w) rfl rfl (hu65 hr)) (pv 4) (pv 3) (by rfl)) (pss_one (ps_set (i := 4) sc_law.nd rfl (Or.inl rfl) (pe_ifExp (pt_cmpR op_lt (pe_ix (x_ix (K := K) rfl) (pv 4) pe_int (fun _ _ => rfl)) pe_int (nomark _)) (pe_tup (pa_cons (pe_ix (x_ix (K := K) rfl) (pv 4) pe_int (fun _ _ => rfl)) (pa_cons (pe_op (o_add (K := K) rfl) (pe_ix (x_ix (K := K) rfl) (pv 4) pe_int (fun _ _ => rfl)) pe_int) pa_nil))) (pe_tup (pa_cons (pe_op op_mod (pe_op (o_add (K := K) rfl) (pe_ix (x_ix (K := K) rfl) (pv 4) pe_int (fun _ _ => rfl)) pe_int) pe_int) (pa_cons pe_int pa_nil)))))))
    (pss_one (ps_expr (pe_bm PySem.F.plainAttrs_list PySem.F.slot_list_append PySem.F.type_list_append mt_append (pv 3) (pa_cons (pv 4) pa_nil)))))))
    (pss_cons (ps_par (i := 5) (j := 6) (by rfl) sc_law.nd rfl rfl (by decide) rfl rfl (pa_cons (pe_c c__law_orders hr (by decide) (by rfl) (pa_cons (pv 1) (pa_cons (pe_lc (own := [("_law_a", 7), ("_law_b", 8)]) rfl sc_law.nd (i_seq (K := K) rfl (pv 3)) (blkOk_by (own := [("_law_a", 7), ("_law_b", 8)]) (N := N_law) (sc := defScope s_law) (by decide +kernel)) (fun _ _ _ _ _ => (g_tup (K := K) (n := 2) rfl (by rfl) (pgs_cons (pg_name (i := 7) sc_law.nd rfl (Or.inl rfl)) (pgs_cons (pg_name (i := 8) sc_law.nd rfl (Or.inl rfl)) pgs_nil)))) (fun _ _ _ _ _ => pts_nil) (fun _ _ _ _ _ => (pv 7))) (pa_cons pe_int pa_nil)))) (pa_cons (pe_c c__law_orders hr (by decide) (by rfl) (pa_cons (pv 1) (pa_cons (pe_lc (own := [("_law_a", 7), ("_law_b", 8)]) rfl sc_law.nd (i_seq (K := K) rfl (pv 3)) (blkOk_by (own := [("_law_a", 7), ("_law_b", 8)]) (N := N_law) (sc := defScope s_law) (by decide +kernel)) (fun _ _ _ _ _ => (g_tup (K := K) (n := 2) rfl (by rfl) (pgs_cons (pg_name (i := 7) sc_law.nd rfl (Or.inl rfl)) (pgs_cons (pg_name (i := 8) sc_law.nd rfl (Or.inl rfl)) pgs_nil)))) (fun _ _ _ _ _ => pts_nil) (fun _ _ _ _ _ => (pv 8))) (pa_cons pe_int pa_nil)))) pa_nil)) (by rfl))
    (pss_cons (ps_set (i := 9) sc_law.nd rfl (Or.inl rfl) (pe_callTy (c_tup (K := K) rfl) (by rfl) T.tuple_ boot_tuple (pa_cons (pe_lc (own := [("_law_x", 10)]) rfl sc_law.nd (pi_range1 (by rfl) T.range_ (pa_cons (pv 2) pa_nil)) (blkOk_by (own := [("_law_x", 10)]) (N := N_law) (sc := defScope s_law) (by decide +kernel)) (fun _ _ _ _ _ => (pg_name (i := 10) sc_law.nd rfl (Or.inl rfl))) (fun _ _ _ _ _ => pts_one (pt_cmpR op_gt (pe_c c__law_draw hr (by decide) (by rfl) (pa_cons (pv 1) (pa_cons pe_int pa_nil))) pe_int (nomark _))) (fun _ _ _ _ _ => (pv 10))) pa_nil)))
    (pss_cons (ps_set (i := 11) sc_law.nd rfl (Or.inr rfl) (pe_disp (pps_cons pe_str (pe_c c_by_lists hr (by decide) (by rfl) (pa_cons (pv 2) (pa_cons (pv 5) pa_nil))) (pps_cons pe_str (pe_c c_by_lists hr (by decide) (by rfl) (pa_cons (pv 2) (pa_cons (pv 6) pa_nil))) (pps_cons pe_str (pv 9) pps_nil))) (by rfl) (by rfl) (fun z => by cases z) (by decide)))
    (pss_cons (ps_if (PW.pt (pw_or (pt_val (pe_c c_does_shrink hr (by decide) (by rfl) (pa_cons (pe_dget (hu_of hr) (pv 11) pe_str (fun _ _ => rfl)) pa_nil))) (pw_or1 (pt_val (pe_c c_does_shrink hr (by decide) (by rfl) (pa_cons (pe_dget (hu_of hr) (pv 11) pe_str (fun _ _ => rfl)) pa_nil)))))) (pss_one (ps_ret pe_bl)) pss_nil)
    (pss_cons (ps_dput (hu_of hr) (pv 11) pe_str (pe_c c_settled_sets hr (by decide) (by rfl) (pa_cons (pe_dget (hu_of hr) (pv 11) pe_str (fun _ _ => rfl)) (pa_cons (pe_dget (hu_of hr) (pv 11) pe_str (fun _ _ => rfl)) (pa_cons (pv 9) pa_nil)))) rfl)
    (pss_cons (ps_if (pt_cmpR (o_notIn (K := K) (w := w) rfl rfl (hu65 hr)) (pe_c c_best_settled hr (by decide) (by rfl) (pa_cons (pe_dget (hu_of hr) (pv 11) pe_str (fun _ _ => rfl)) (pa_cons (pe_dget (hu_of hr) (pv 11) pe_str (fun _ _ => rfl)) (pa_cons (pv 9) pa_nil)))) (pe_dget (hu_of hr) (pv 11) pe_str (fun _ _ => rfl)) (by rfl)) (pss_one (ps_ret pe_bl)) pss_nil)
    (pss_cons (ps_for PassesOwn.never rfl (i_seq (K := K) rfl (pe_tup (pa_cons pe_int (pa_cons pe_int pa_nil)))) (pg_name (i := 12) sc_law.nd rfl (Or.inr rfl)) (pss_cons (ps_set (i := 13) sc_law.nd rfl (Or.inr rfl) (pe_lc (own := [("_law_some", 14)]) rfl sc_law.nd (i_seq (K := K) rfl (pe_dget (hu_of hr) (pv 11) pe_str (fun _ _ => rfl))) (blkOk_by (own := [("_law_some", 14)]) (N := N_law) (sc := defScope s_law) (by decide +kernel)) (fun _ _ _ _ _ => (pg_name (i := 14) sc_law.nd rfl (Or.inl rfl))) (fun _ _ _ _ _ => pts_nil) (fun _ _ _ _ _ => (pe_callB (c_sorted (w := w) rfl rfl (hu65 hr)) (by rfl) T.sorted_ boot_sorted (pa_cons (pe_lc (own := [("_law_x", 10)]) rfl sc_law.nd (i_seq (K := K) rfl (pv 14)) (blkOk_by (own := [("_law_x", 10)]) (N := N_law) (by kernel_rfl)) (fun _ _ _ _ _ => (pg_name (i := 10) sc_law.nd rfl (Or.inl rfl))) (fun _ _ _ _ _ => pts_nil) (fun _ _ _ _ _ => (pe_ix (x_ix (K := K) rfl) (pe_ix (x_ix (K := K) rfl) (pv 3) (pv 10) (fun _ _ => rfl)) (pv 12) (fun _ _ => rfl)))) pa_nil)))))
    (pss_one (ps_if (pt_cmpR (o_ne (K := K) rfl hr.units) (pe_lc (own := [("_law_some", 14)]) rfl sc_law.nd (i_seq (K := K) rfl (pv 13)) (blkOk_by (own := [("_law_some", 14)]) (N := N_law) (sc := defScope s_law) (by decide +kernel)) (fun _ _ _ _ _ => (pg_name (i := 14) sc_law.nd rfl (Or.inl rfl))) (fun _ _ _ _ _ => pts_one (pt_cmpR (o_ne (K := K) rfl hr.units) (pv 14) (pe_ix (x_ix (K := K) rfl) (pv 13) pe_int (fun _ _ => rfl)) (nomark _))) (fun _ _ _ _ _ => (pv 14))) (pe_lst pa_nil) (nomark _)) (pss_one (ps_ret pe_bl)) pss_nil))))
    (pss_cons (ps_set (i := 15) sc_law.nd rfl (Or.inl rfl) (pe_lst (pa_cons (pe_tup pa_nil) pa_nil)))
    (pss_cons (ps_for PassesOwn.never rfl (i_seq (K := K) rfl (pv 9)) (pg_name (i := 10) sc_law.nd rfl (Or.inr rfl)) (pss_one (ps_set (i := 15) sc_law.nd rfl (Or.inl rfl) (pe_op (o_add (K := K) rfl) (pv 15) (pe_lc (own := [("_law_some", 14)]) rfl sc_law.nd (i_seq (K := K) rfl (pv 15)) (blkOk_by (own := [("_law_some", 14)]) (N := N_law) (sc := defScope s_law) (by decide +kernel)) (fun _ _ _ _ _ => (pg_name (i := 14) sc_law.nd rfl (Or.inl rfl))) (fun _ _ _ _ _ => pts_nil) (fun _ _ _ _ _ => (pe_op (o_add (K := K) rfl) (pv 14) (pe_tup (pa_cons (pv 10) pa_nil)))))))))
    (pss_cons (ps_setLc (i := 16) (own := [("_law_some", 14)]) rfl sc_law.nd rfl rfl (sw_true rfl rfl rfl (by decide +kernel)) (i_seq (K := K) rfl (pv 15)) (blkOk_by (own := [("_law_some", 14)]) (N := N_law) (sc := defScope s_law) (by decide +kernel)) (fun _ _ _ _ _ => (pg_name (i := 14) sc_law.nd rfl (Or.inl rfl))) (fun _ _ _ _ _ => pts_one (pt_val (pe_c c_is_agreed hr (by decide) (by rfl) (pa_cons (pe_dget (hu_of hr) (pv 11) pe_str (fun _ _ => rfl)) (pa_cons (pe_dget (hu_of hr) (pv 11) pe_str (fun _ _ => rfl)) (pa_cons (pv 14) pa_nil)))))) (fun _ _ _ _ _ => (pv 14)))
    (pss_cons (ps_for PassesOwn.never rfl (i_seq (K := K) rfl (pv 15)) (pg_name (i := 14) sc_law.nd rfl (Or.inl rfl)) (pss_cons (ps_par (i := 5) (j := 6) (by rfl) sc_law.nd rfl rfl (by decide) rfl rfl (pa_cons (pe_lc (own := [("_law_x", 10)]) rfl sc_law.nd (i_seq (K := K) rfl (pv 14)) (blkOk_by (own := [("_law_x", 10)]) (N := N_law) (sc := defScope s_law) (by decide +kernel)) (fun _ _ _ _ _ => (pg_name (i := 10) sc_law.nd rfl (Or.inl rfl))) (fun _ _ _ _ _ => pts_nil) (fun _ _ _ _ _ => (pe_ix (x_ix (K := K) rfl) (pe_ix (x_ix (K := K) rfl) (pv 3) (pv 10) (fun _ _ => rfl)) pe_int (fun _ _ => rfl)))) (pa_cons (pe_lc (own := [("_law_x", 10)]) rfl sc_law.nd (i_seq (K := K) rfl (pv 14)) (blkOk_by (own := [("_law_x", 10)]) (N := N_law) (sc := defScope s_law) (by decide +kernel)) (fun _ _ _ _ _ => (pg_name (i := 10) sc_law.nd rfl (Or.inl rfl))) (fun _ _ _ _ _ => pts_nil) (fun _ _ _ _ _ => (pe_ix (x_ix (K := K) rfl) (pe_ix (x_ix (K := K) rfl) (pv 3) (pv 10) (fun _ _ => rfl)) pe_int (fun _ _ => rfl)))) pa_nil)) (by rfl))
    (pss_one (ps_if (pt_cmpR (o_ne (K := K) rfl hr.units) (pe_cmpR (o_in (K := K) (w := w) rfl rfl (hu65 hr)) (pv 14) (pv 16) (by rfl)) (pe_chain (o_eq (K := K) rfl hr.units) (o_eq (K := K) rfl hr.units) (pe_lenSet2 (K := K) rfl (pv 5) (by rfl) T.len_ (by rfl) T.set_) (pe_callB (c_len (K := K) rfl) (by rfl) T.len_ boot_len (pa_cons (pv 14) pa_nil)) (pe_lenSet2 (K := K) rfl (pv 6) (by rfl) T.len_ (by rfl) T.set_)) (nomark _)) (pss_one (ps_ret pe_bl)) pss_nil))))
    (pss_cons (ps_for PassesOwn.never rfl (pi_range1 (by rfl) T.range_ (pa_cons pe_int pa_nil)) (pg_name (i := 17) sc_law.nd rfl (Or.inl rfl)) (pss_one (ps_if (pt_not (pt_val (pe_c c__law_part_right hr (by decide) (by rfl) (pa_cons (pv 11) (pa_cons (pe_ix (x_ix (K := K) rfl) (pv 16) (pe_c c__law_draw hr (by decide) (by rfl) (pa_cons (pv 1) (pa_cons (pe_callB (c_len (K := K) rfl) (by rfl) T.len_ boot_len (pa_cons (pv 16) pa_nil)) pa_nil))) (fun _ _ => rfl)) pa_nil))))) (pss_one (ps_ret pe_bl)) pss_nil)))
    (pss_cons (ps_set (i := 18) sc_law.nd rfl (Or.inr rfl) (pe_ix (x_ix (K := K) rfl) (pe_dget (hu_of hr) (pv 11) pe_str (fun _ _ => rfl)) (pe_c c__law_draw hr (by decide) (by rfl) (pa_cons (pv 1) (pa_cons (pe_callB (c_len (K := K) rfl) (by rfl) T.len_ boot_len (pa_cons (pe_dget (hu_of hr) (pv 11) pe_str (fun _ _ => rfl)) pa_nil)) pa_nil))) (fun _ _ => rfl)))
    (pss_one (ps_ret (pe_cmpR (o_eq (K := K) rfl hr.units) (pe_lc (own := [("_law_x", 10)]) rfl sc_law.nd (pi_range1 (by rfl) T.range_ (pa_cons (pv 2) pa_nil)) (blkOk_by (own := [("_law_x", 10)]) (N := N_law) (sc := defScope s_law) (by decide +kernel)) (fun _ _ _ _ _ => (pg_name (i := 10) sc_law.nd rfl (Or.inl rfl))) (fun _ _ _ _ _ => pts_one (pt_not (pt_val (pe_c c__law_change_right hr (by decide) (by rfl) (pa_cons (pv 11) (pa_cons (pv 18) (pa_cons (pv 10) pa_nil))))))) (fun _ _ _ _ _ => (pv 10))) (pe_lst pa_nil) (nomark _))))))))))))))))))))), ?_⟩)
  · obtain ⟨v, ss, rfl, _⟩ := h
    rfl
  obtain ⟨v, ss, rfl, pv, sl, tb, hq⟩ := h
  refine deck_step (v := v) rfl pv sl fun d c H1 e1 hd hd1 hc1 => ?_
  have tb1 : Tab C H1 := tb.mono e1
  let cs := deckCs ss
  have cl : cs.length ≤ 60 := by
    show (deckCs ss).length ≤ 60
    unfold deckCs
    rw [List.length_map, List.length_take]
    omega
  have hd1 : H1 d = some (deckO c 0) := hd1
  have hc1 : H1 c = some (.lst (cs.map V.int)) := hc1
  have G1 : Ty [some (scrT K ss), some (deckT d c cs 0), none, none, none, none, none, none, none, none, none, none, none, none, none, none, none, none, none] ((L2.start N_law [v]).set 1 (some (.ref d))) H1 := ((ty_start (ts := [scrT K ss]) (vs := [v]) ⟨pv, trivial⟩ N_law).mono e1).set 1 (t := deckT d c cs 0) ⟨rfl, hd1, hc1⟩
  let M1 : Mm := [some (.arg (scrT K ss)), some (.dek d c cs 0), none, none, none, none, none, none, none, none, none, none, none, none, none, none, none, none, none]
  have ty1 : TyM (er H1 d) M1 ((L2.start N_law [v]).set 1 (some (.ref d))) H1 := tym_up (k := 1) (Γ := M1) G1 hd1 ⟨rfl, er_scr _ _ _, rfl, rfl, trivial⟩ (OwnAt.one (k := 1) (Γ := M1) ⟨fun z => (by cases z), fun _ => rfl, trivial⟩)
  have tb0 : Tab C (er H1 d) := er_tab hd1 tb1
  obtain ⟨n, hn, n3, n5⟩ : ∃ n : Nat, 3 + drawV cs 0 3 = (n : Int) ∧ 3 ≤ n ∧ n ≤ 5 := by
    have z0 := drawV_0 (cs := cs) (n := 0) (b := 3) (by decide)
    have z1 := drawV_lt (cs := cs) (n := 0) (b := 3) (by decide)
    exact ⟨(3 + drawV cs 0 3).toNat, by omega, by omega, by omega⟩
  refine Jm.stepN (Γ1 := [some (.arg (scrT K ss)), some (.dek d c cs 1), some (.dat (.int n)), some (.own (([] : List (Int × Int)).map prD)), none, none, none, none, none, none, none, none, none, none, none, none, none, none, none]) (C1 := True) (jm_asgTJ (i := 2) (j := 3) (Je.eq (je_op (je_pure jd_int) (noL_int _) (je_draw (C := C) (l := d) (c := c) (cs := cs) (n := 0) (i := 1) (b := 3) rfl jd_int (by decide) (by decide) (by decide) cl) r_add) (by rw [hn])) (noL_int _) (mv_own (jf_lst (ds := []) ja_nil (by simp)) rfl)) ty1 fun _ σ2 H2 f2 ty2 => ?_
  let MP : List (Int × Int) → Int → Option MT → Mm := fun ps k pr => [some (.arg (scrT K ss)), some (.dek d c cs k), some (.dat (.int n)), some (.own (ps.map prD)), pr, none, none, none, none, none, none, none, none, none, none, none, none, none, none]
  let PS := pairsV cs n 1 []
  have PE : PairsEnd n PS := pairs_end cs n
  refine Jm.stepN (Γ1 := MP PS.1 PS.2 none) (C1 := True) (jm_while (Γs := fun x : List (Int × Int) × Int => MP x.1 x.2 none) (P := Pairs cs n) (μ := fun x => n - x.1.length) (Cf := fun x => x = PS) ([], 1) (Pairs.start cs n) (fun x S => ?_) (fun x S e => ?_)) ty2 fun _ σ3 H3 f3 ty3 => ?_
  · obtain ⟨ps, k⟩ := x
    have lp : ps.length ≤ n := S.le
    have ka : k = 1 + 2 * (ps.length : Int) := S.at_
    refine ⟨decide ((ps.length : Int) < (n : Int)), Jt.eq (jt_test (jd_lt (jd_lenL (jd_var (i := 3) (T := dt (.list (ps.map prD))) rfl)) (jd_var (i := 2) (T := dt (.int n)) rfl))) (by rw [List.length_map]), fun hb => ?_, fun hb => ?_⟩
    · have hb : (ps.length : Int) < (n : Int) := of_decide_eq_true hb
      let v0 : Int × Int := (drawV cs k 3, drawV cs (k + 1) 3)
      have ok0 : OkP v0 := draw_ok cs k
      refine ⟨(ps ++ [newP cs k ps], k + 2), S.next (by show ps.length < n; omega), ?_, ?_⟩
      · show n - (ps ++ [newP cs k ps]).length < n - ps.length
        rw [List.length_append, List.length_singleton]
        omega
      · refine jm_seq (Γ1 := MP ps (k + 1 + 1) (some (.dat (prD v0)))) (C1 := True) (jm_asgJ (i := 4) (je_tup2 (je_draw (C := C) (l := d) (c := c) (cs := cs) (n := k) (i := 1) (b := 3) rfl jd_int (by decide) (by omega) (by omega) cl) (noL_int _) (je_draw (C := C) (l := d) (c := c) (cs := cs) (n := k + 1) (i := 1) (b := 3) rfl jd_int (by decide) (by omega) (by omega) cl)) (noL_prD v0)) fun _ =>
          jm_seq (Γ1 := MP ps (k + 1 + 1) (some (.dat (prD (newP cs k ps))))) (C1 := True) (jm_while (Γs := fun y : (Int × Int) × Nat => MP ps (k + 1 + 1) (some (.dat (prD y.1)))) (P := Seek ps v0) (μ := fun y => y.2) (Cf := fun y => y.1 = newP cs k ps) (v0, 9) (Seek.start ps v0) (fun y Y => ?_) (fun y Y e => ⟨trivial, rfl, rfl, rfl, rfl, by rw [e], trivial⟩)) fun _ =>
          Jm.imp (jm_append (ds := ps.map prD) (d := prD (newP cs k ps)) (i := 3) rfl (jd_var (i := 4) rfl) (noL_prD _) (by rw [List.length_map]; omega)) (fun _ => trivial) ⟨rfl, ?_, rfl, ?_, trivial⟩
        · obtain ⟨u, g⟩ := y
          have uo : OkP u := Y.ok ok0
          have at0 : ∀ {Γ : Gm}, Γ[4]? = some (some (dt (prD u))) → Jd Γ (tOp (rIxA K) (tVar 4) (tC (.int 0))) (dt (.int u.1)) := fun {Γ} e => jd_ixT (ds := [.int u.1, .int u.2]) (jd_var e) jd_int atI_zero
          have at1 : ∀ {Γ : Gm}, Γ[4]? = some (some (dt (prD u))) → Jd Γ (tOp (rIxA K) (tVar 4) (tC (.int 1))) (dt (.int u.2)) := fun {Γ} e => jd_ixT (ds := [.int u.1, .int u.2]) (jd_var e) jd_int (atI_nat (j := 1) rfl)
          refine ⟨decide (u ∈ ps), Jt.eq (jt_test (jd_inL (d := prD u) (ds := ps.map prD) (jd_var (i := 4) rfl) (jd_var (i := 3) (T := dt (.list (ps.map prD))) rfl) ((sh_prD u (k := 1)).ok (by decide)) (sh_prs ps))) (by rw [any_prs]), fun hu => ?_, fun hu => Y.done (of_decide_eq_false hu)⟩
          have hu : u ∈ ps := of_decide_eq_true hu
          obtain ⟨g2, e2, Y2⟩ := Y.next ok0 (by omega) hu
          have e2 : g = g2 + 1 := e2
          refine ⟨(nextP u, g2), Y2, by show g2 < g; omega, ?_⟩
          refine jm_asg (i := 4) (d := prD (nextP u)) (jd_if (b := decide (u.2 < 2)) (jt_test (jd_lt (at1 rfl) jd_int)) (fun h => Jd.eq (jd_tup (ds := [.int u.1, .int (u.2 + 1)]) (ja_cons (at0 rfl) (ja_cons (jd_addI (at1 rfl) jd_int) ja_nil)) (by simp)) ?_) fun h => Jd.eq (jd_tup (ds := [.int ((u.1 + 1) % 3), .int 0]) (ja_cons (jd_mod (jd_addI (at0 rfl) jd_int) jd_int (by decide)) (ja_cons jd_int ja_nil)) (by simp)) ?_) (noL_prD _)
          · unfold nextP
            rw [if_pos (of_decide_eq_true h)]
            rfl
          · unfold nextP
            rw [if_neg (of_decide_eq_false h)]
            rfl
        · show some (MT.dek d c cs (k + 1 + 1)) = some (MT.dek d c cs (k + 2))
          rw [show k + 1 + 1 = k + 2 by omega]
        · show some (MT.own (ps.map prD ++ [prD (newP cs k ps)])) = some (MT.own ((ps ++ [newP cs k ps]).map prD))
          rw [List.map_append]
          rfl
    · exact S.done (by have := of_decide_eq_false hb; show ¬ ps.length < n; omega)
  · subst e
    exact ⟨trivial, rfl, rfl, rfl, rfl, trivial⟩
  let ps := PS.1
  let k1 := PS.2
  have pl : ps.length = n := PE.len
  have k1e : k1 = 1 + 2 * (n : Int) := PE.at_
  let sA := ps.map Prod.fst
  let sB := ps.map Prod.snd
  have lA : sA.length ≤ 6 := by show (ps.map Prod.fst).length ≤ 6; rw [List.length_map]; omega
  have lB : sB.length ≤ 6 := by show (ps.map Prod.snd).length ≤ 6; rw [List.length_map]; omega
  let RA := rowsV cs sA k1 3
  have kA : k1 ≤ RA.2 ∧ RA.2 ≤ k1 + 18 := rowsV_at (cs := cs) (sides := sA) (n := k1) lA 3
  let RB := rowsV cs sB RA.2 3
  have kB : RA.2 ≤ RB.2 ∧ RB.2 ≤ RA.2 + 18 := rowsV_at (cs := cs) (sides := sB) (n := RA.2) lB 3
  let k3 := RB.2
  let MS : Int → Mm := fun k => [some (.arg (scrT K ss)), some (.dek d c cs k), some (.dat (.int n)), some (.own (ps.map prD)), none, some (.dat (setsD RA.1)), some (.dat (setsD RB.1)), none, none, none, none, none, none, none, none, none, none, none, none]
  have comp : ∀ (Γ : Gm) (g : Int × Int → Int) (j : Nat), Γ[3]? = some (some (dt (.list (ps.map prD)))) → (∀ v : Int × Int, (((wipeG Γ [7, 8]).set 7 (some (dt (.int v.1)))).set 8 (some (dt (.int v.2))))[j]? = some (some (dt (.int (g v))))) →
      Jd Γ (tLc (iSeq K (tVar 3)) (gTup K 2 (gCons (gName 7) (gCons (gName 8) gNil))) tYes (tVar j) [7, 8]) (dt (.list ((ps.map g).map .int))) := fun Γ g j h3 hj => jd_of_jf (Jf.eq (jf_lc (xs := ps) (Y := fun v => dt (prD v)) (bind := fun v Γ => (Γ.set 7 (some (dt (.int v.1)))).set 8 (some (dt (.int v.2)))) (p := fun _ => true) (q := fun v => .int (g v)) (ji_lst (D := prD) (jd_var h3)) (tg_pair (A := fun v : Int × Int => .int v.1) (B := fun v => .int v.2) 7 8) (fun v hv => jt_yes) (fun v hv _ => jd_var (hj v)) (by omega) (fun _ _ _ => noL_int _)) (by rw [List.filter_eq_self.mpr (fun _ _ => rfl), List.map_map]; rfl))
  refine Jm.stepN (Γ1 := MS (k3 + ((0 : Nat) : Int))) (C1 := True) (jm_weak (Γ := MP ps k1 none) (jm_par2J (Γ := MP ps k1 none) (i := 5) (j := 6) (je_orders (C := C) (i := 1) (l := d) (c := c) (cs := cs) (sides := sA) (n := k1) rfl (comp _ Prod.fst 7 rfl fun v => rfl) lA (by omega) (by omega) cl) ?_ (je_orders (C := C) (i := 1) (l := d) (c := c) (cs := cs) (sides := sB) (n := RA.2) rfl (comp _ Prod.snd 8 rfl fun v => rfl) lB (by omega) (by omega) cl) ?_) ⟨rfl, ?_, rfl, rfl, rfl, rfl, trivial⟩) ty3 fun _ σ4 H4 f4 ty4 => ?_
  · unfold setsD; rw [noL_tuple]; exact noLs_sets _
  · unfold setsD; rw [noL_tuple]; exact noLs_sets _
  · show some (MT.dek d c cs k3) = some (MT.dek d c cs (k3 + ((0 : Nat) : Int)))
    rw [show k3 + ((0 : Nat) : Int) = k3 by omega]
  let st := stV cs k3 n
  have hst : IsSet n st := stV_set cs k3 n
  have lst : st.length ≤ 5 := Nat.le_trans (isSet_len hst) n5
  refine Jm.stepN (Γ1 := (MS (k3 + (n : Int))).set 9 (some (.dat (sD st)))) (C1 := True) (jm_asgJ (i := 9) (je_lcR (Γs := fun i => MS (k3 + (i : Int))) (j := 10) (hi := n) (p := fun i => decide (0 < drawV cs (k3 + i) 5)) (fun i => rfl) (jd_var (i := 2) rfl) (by omega) fun i hi => JtE.cast (je_test (je_op (d1 := .int (drawV cs (k3 + i) 5)) (d2 := .int 0) (je_draw (C := C) (i := 1) (l := d) (c := c) (cs := cs) (n := k3 + (i : Int)) (b := 5) rfl jd_int (by decide) (by omega) (by omega) cl) (noL_int _) (je_pure jd_int) fun x y H Q p1 p2 kq => ?_)) ?_) (noL_sD _)) ty4 fun _ σ5 H5 f5 ty5 => ?_
  · rw [tp_int.mp p1, tp_int.mp p2]
    exact ⟨_, _, rfl, rfl, kq _ H (Same.refl H) (tp_bool.mpr rfl)⟩
  · show ((MS (k3 + (i : Int) + 1)).set 10 _) = (MS (k3 + ((i + 1 : Nat) : Int))).set 10 _
    rw [show k3 + ((i + 1 : Nat) : Int) = k3 + (i : Int) + 1 by omega]
  let k4 : Int := k3 + (n : Int)
  have tb5 : Tab C H5 := tb0.mono ty5.same
  have g5 := ty5.ty
  obtain ⟨vA, a1, a2⟩ := g5.at_ 5 (dt (setsD RA.1)) rfl
  obtain ⟨vB, b1, b2⟩ := g5.at_ 6 (dt (setsD RB.1)) rfl
  let G6 : Gm := [some (scrT K ss), some (deckT d c cs k4), some (dt (.int n)), some (dt (.list (ps.map prD))), none, some (dtT C (setsD RA.1)), some (dtT C (setsD RB.1)), none, none, some (dt (sD st)), none, none, none, none, none, none, none, none, none]
  have g6 : Ty G6 σ5 H5 := (g5.know a1 (t := dtT C (setsD RA.1)) ⟨a2, tb5⟩ (by show 5 < 19; decide)).know b1 (t := dtT C (setsD RB.1)) ⟨b2, tb5⟩ (by show 6 < 19; decide)
  have eA : sA.length = n := by show (ps.map Prod.fst).length = n; rw [List.length_map, pl]
  have eB : sB.length = n := by show (ps.map Prod.snd).length = n; rw [List.length_map, pl]
  have LA : Lists n (pA ps) RA.1 := eA ▸ rows_lists (cs := cs) (sides := sA) (n := k1) (fun x hx => by obtain ⟨v, hv, rfl⟩ := List.mem_map.mp hx; exact ⟨(PE.ok v hv).a0, (PE.ok v hv).a3⟩)
  have LB : Lists n (pB ps) RB.1 := eB ▸ rows_lists (cs := cs) (sides := sB) (n := RA.2) (fun x hx => by obtain ⟨v, hv, rfl⟩ := List.mem_map.mp hx; exact ⟨(PE.ok v hv).b0, (PE.ok v hv).b3⟩)
  have n6 : n ≤ 6 := by omega
  let a := chL n RA.1
  let b := chL n RB.1
  have M := LA.mkt LB
  have rA : RA.1.length = 3 := rowsV_len cs sA k1 3
  have rB : RB.1.length = 3 := rowsV_len cs sB RA.2 3
  have two : Two a b a.n := ⟨rfl, rfl, n6, by show 1 ≤ n; omega, LA.side.ok, LB.side.ok⟩
  have D2 : Dom2 a b st := ⟨two, hst⟩
  refine disp3S (i := 11) g6 (jd_call (S := sg_by_lists C) (n, RA.1) (LA.okB (by omega) n6 (by omega)) (ja_cons (jd_var (i := 2) rfl) (ja_cons (jd_var (i := 5) rfl) ja_nil))) (jd_call (S := sg_by_lists C) (n, RB.1) (LB.okB (by omega) n6 (by omega)) (ja_cons (jd_var (i := 2) rfl) (ja_cons (jd_var (i := 6) rfl) ja_nil))) (jd_var (i := 9) (T := dt (sD st)) rfl) (by decide +kernel) (by decide +kernel) (by decide +kernel) (dk_cho _ _) (dk_cho _ _) (dk_dt _) fun l H6 e6 hl ty6 => ?_
  let m3 : List (PySem.Str × VT) := [("near", cho C a), ("far", cho C b), ("standing", dt (sD st))]
  let G7 : Gm := [some (scrT K ss), some (deckT d c cs k4), some (dt (.int n)), some (dt (.list (ps.map prD))), none, some (dtT C (setsD RA.1)), some (dtT C (setsD RB.1)), none, none, some (dt (sD st)), none, some (strA l m3), none, none, none, none, none, none, none]
  have ty6 : Ty G7 (σ5.set 11 (some (.ref l))) H6 := ty6
  have dl : d ≠ l := fun z => by
    obtain ⟨v1, _, _, q, _⟩ := g6.at_ 1 (deckT d c cs k4) rfl
    rw [z, hl] at q
    cases q
  have v11 : ∀ {Γ : Gm}, Γ[11]? = some (some (strA l m3)) → Jd Γ (tVar 11) (strA l m3) := fun {Γ} e => jd_var e
  refine Js.step (Γ1 := G7) (C1 := True) (js_guard (Jt.eq (jt_or (jt_B (jd_call (S := sg_does_shrink C) a (LA.noSh n6) (ja_cons (jd_aget (v11 rfl) (List.mem_cons_self ..)) ja_nil))) fun _ => jt_B (jd_call (S := sg_does_shrink C) b (LB.noSh n6) (ja_cons (jd_aget (v11 rfl) (List.mem_cons_of_mem _ (List.mem_cons_self ..))) ja_nil))) rfl)) ty6 fun _ σ7 H7 e7 ty7 => ?_
  refine put_strAS (i := 11) (l := l) (m := m3) (T := dt (setsD (settledL a b st))) ty7 rfl (jd_call (S := sg_settled_sets C) (a, b, st) D2 (ja_cons (jd_aget (v11 rfl) (List.mem_cons_self ..)) (ja_cons (jd_aget (v11 rfl) (List.mem_cons_of_mem _ (List.mem_cons_self ..))) (ja_cons (jd_var (i := 9) rfl) ja_nil)))) (dk_dt _) (fun p hp => ?_) (by show 3 ≤ 100; decide) (fun p hp => ?_) (ErAll.at_ (Γ := G7.set 11 none) ⟨er_scr _ _ _, er_deck dl, (dk_dt _).er _, (dk_dt _).er _, (dk_dtT _ _).er _, (dk_dtT _ _).er _, (dk_dt _).er _, trivial⟩) fun H8 ty8 => ?_
  · rcases List.mem_cons.mp hp with rfl | hp
    · exact dk_cho _ _
    rcases List.mem_cons.mp hp with rfl | hp
    · exact dk_cho _ _
    rw [List.mem_singleton.mp hp]
    exact dk_dt _
  · rcases List.mem_cons.mp hp with rfl | hp
    · exact (by decide +kernel : decide ((Sum.inr ("near" : PySem.Str) : Key) = Sum.inr ("settled" : PySem.Str)) = false)
    rcases List.mem_cons.mp hp with rfl | hp
    · exact (by decide +kernel : decide ((Sum.inr ("far" : PySem.Str) : Key) = Sum.inr ("settled" : PySem.Str)) = false)
    rw [List.mem_singleton.mp hp]
    exact (by decide +kernel : decide ((Sum.inr ("standing" : PySem.Str) : Key) = Sum.inr ("settled" : PySem.Str)) = false)
  let G8 : Gm := [some (scrT K ss), some (deckT d c cs k4), some (dt (.int n)), some (dt (.list (ps.map prD))), none, none, none, none, none, some (dt (sD st)), none, some (strA l (wL C a b st)), none, none, none, none, none, none, none]
  have ty8 : Ty G8 σ7 H8 := Gle.ty (Γ := G7.set 11 (some (strA l (wL C a b st)))) ⟨rfl, rfl, rfl, rfl, rfl, rfl, trivial⟩ ty8
  have wv : ∀ {Γ : Gm}, Γ[11]? = some (some (strA l (wL C a b st))) → Jd Γ (tVar 11) (wT C a b st) := fun {Γ} e => Jd.imp (jd_var e) fun v H p => strA_T p
  refine Js.step (Γ1 := G8) (C1 := True) (js_guard (jt_test (jd_notInB (a := a) (b := b) (st := st) (jd_call (S := sg_best_settled C) (a, b, st) ⟨D2, _, _, _, _, M⟩ (ja_cons (w_near (wv rfl)) (ja_cons (w_far (wv rfl)) (ja_cons (jd_var (i := 9) rfl) ja_nil)))) (w_se (wv rfl))))) ty8 fun _ σ9 H9 e9 ty9 => ?_
  have lS : (settledL a b st).length ≤ 64 := settled_len (by omega)
  have inS : ∀ s ∈ settledL a b st, IsSet n s := fun s hs => ((M.mem_settled hst).mp hs).1.set
  have bd : ∀ {s : List Int}, IsSet n s → ∀ x ∈ s, 0 ≤ x ∧ x < (ps.length : Int) := fun {s} h x hx => by rw [pl]; exact h.2 x hx
  have ln : ∀ {s : List Int}, IsSet n s → s.length ≤ 6 := fun {s} h => len6 h n6
  refine Js.step (Γ1 := G8) (C1 := True) (js_for (xs := [0, 1]) (Y := fun i => dt (.int i)) (bind := fun i Γ => Γ.set 12 (some (dt (.int i)))) (Γs := fun _ => G8) (C := fun _ => True) (ji_tup (D := PyData.int) (jd_tup (ds := [.int 0, .int 1]) (ja_cons jd_int (ja_cons jd_int ja_nil)) (by simp))) (tg_name 12) trivial fun j i hj _ => ?_) ty9 fun _ σ10 H10 e10 ty10 => ?_
  · have hi : i = 0 ∨ i = 1 := by simpa using List.mem_of_getElem? hj
    have same : ∀ s ∈ settledL a b st, ∀ u ∈ settledL a b st, srtI (s.map (sideP ps i)) = srtI (u.map (sideP ps i)) := fun s hs u hu => by
      refine srtI_perm ?_
      rcases hi with rfl | rfl
      · exact M.same_p hst hs hu
      · exact M.same_q hst hs hu
    refine js_weak (js_seq (Γ1 := (G8.set 12 (some (dt (.int i)))).set 13 (some (dt (.list ((settledL a b st).map (woD ps i)))))) (C1 := True) (js_asg (i := 13) (jd_of_jf (jf_lcL (xs := settledL a b st) (Y := fun s => dt (sD s)) (bind := fun s Γ => Γ.set 14 (some (dt (sD s)))) (q := fun s => (srtI (s.map (sideP ps i))).map .int) (ji_tup (D := sD) (w_se (wv rfl))) (tg_name 14) (fun s hs => Jf.eq (jf_sortD (jd_of_jf (jd_people (bd (inS s hs)) (by have := ln (inS s hs); omega) hi rfl (fun x => rfl) (fun x => rfl) fun x => jd_var (i := 12) rfl)) (alike_i _) (sortable_i _) (depth_i _)) (srtI_map _)) (by omega) (fun s hs => noLs_i _)))) fun _ =>
      js_guard (Jt.eq (jt_test (jd_neD (jd_of_jf (jf_lc (xs := settledL a b st) (Y := fun s => dt (woD ps i s)) (bind := fun s Γ => Γ.set 14 (some (dt (woD ps i s)))) (p := fun _ => false) (q := fun _ => .none) (ji_lst (D := woD ps i) (jd_var (i := 13) rfl)) (tg_name 14) (fun s hs => ?_) (fun s hs h => by cases h) (by omega) (fun s _ h => by cases h))) (jd_of_jf (jf_lst (ds := []) ja_nil (by simp))) ?_ (sh_ints []))) ?_)) (Γ1 := (G8.set 12 (some (dt (.int i)))).set 13 (some (dt (.list ((settledL a b st).map (woD ps i)))))) ⟨rfl, rfl, rfl, rfl, rfl, rfl, trivial⟩
    · obtain ⟨s0, rest, hS⟩ : ∃ s0 rest, settledL a b st = s0 :: rest := by
        cases h : settledL a b st with
        | nil => rw [h] at hs; cases hs
        | cons s0 rest => exact ⟨s0, rest, rfl⟩
      have m0 : s0 ∈ settledL a b st := by rw [hS]; exact List.mem_cons_self ..
      refine Jt.eq (jt_test (jd_neD (d := woD ps i s) (e := woD ps i s0) (jd_var (i := 14) rfl) (jd_ixL (ds := (settledL a b st).map (woD ps i)) (jd_var (i := 13) rfl) jd_int (by rw [hS]; exact atI_zero)) (sh_ints _) (sh_ints _))) ?_
      unfold woD
      rw [eqv_il, same s hs s0 m0]
      simp
    · rw [List.filter_eq_nil_iff.mpr fun _ _ => by simp]
      exact sh_ints []
    · rw [List.filter_eq_nil_iff.mpr fun _ _ => by simp]
      simp [PyData.eqv, PyData.eqvAll]
  let G11 : List (List Int) → Gm := fun L => [some (scrT K ss), some (deckT d c cs k4), some (dt (.int n)), some (dt (.list (ps.map prD))), none, none, none, none, none, some (dt (sD st)), none, some (strA l (wL C a b st)), none, none, none, some (dt (.list (L.map sD))), none, none, none]
  refine Js.step (Γ1 := G11 (lotsL (st.take 0))) (C1 := True) (js_asg (i := 15) (jd_of_jf (jf_lst (ds := [sD []]) (ja_cons jd_nil ja_nil) (by simp)))) ty10 fun _ σ11 H11 e11 ty11 => ?_
  have lotOk : ∀ j, ∀ s ∈ lotsL (st.take j), IsSet n s := fun j s hs => by
    obtain ⟨q1, q2⟩ := lots_ok _ (st.take j) rfl (hst.1.sublist (List.take_sublist _ _)) s hs
    exact ⟨q1, fun x hx => hst.2 x (List.mem_of_mem_take (q2 x hx))⟩
  have lotLen : ∀ j, (lotsL (st.take j)).length ≤ 64 := fun j => by
    rw [lots_len _ (st.take j) rfl]
    have h5 : (st.take j).length ≤ 5 := by rw [List.length_take]; omega
    exact Nat.le_trans (Nat.pow_le_pow_right (by decide) h5) (by decide)
  refine Js.step (Γ1 := G11 (lotsL st)) (C1 := True) (js_weak (js_for (xs := st) (Y := fun x => dt (.int x)) (bind := fun x Γ => Γ.set 10 (some (dt (.int x)))) (Γs := fun j => G11 (lotsL (st.take j))) (C := fun _ => True) (ji_ints (jd_var (i := 9) rfl)) (tg_name 10) trivial fun j x hj _ => ?_) ?_) ty11 fun _ σ12 H12 e12 ty12 => ?_
  · have L1 := lotLen j
    refine js_weak (js_asg (i := 15) (T := dt (.list ((lotsL (st.take (j + 1))).map sD))) (jd_of_jf (Jf.eq (jf_cat (ds := (lotsL (st.take j)).map sD) (es := ((lotsL (st.take j)).map fun s => s ++ [x]).map sD) (jd_var (i := 15) rfl) (jd_of_jf (Jf.eq (jf_lc (xs := lotsL (st.take j)) (Y := fun s => dt (sD s)) (bind := fun s Γ => Γ.set 14 (some (dt (sD s)))) (p := fun _ => true) (q := fun s => sD (s ++ [x])) (ji_lst (D := sD) (jd_var (i := 15) rfl)) (tg_name 14) (fun s hs => jt_yes) (fun s hs _ => Jd.eq (jd_cat (ds := s.map .int) (es := [.int x]) (jd_var (i := 14) rfl) (jd_tup (ds := [.int x]) (ja_cons (jd_var (i := 10) rfl) ja_nil) (by simp)) (by have := ln (lotOk j s hs); rw [List.length_map]; show s.length + 1 ≤ 1000; omega)) (by show PyData.tuple _ = PyData.tuple _; rw [List.map_append]; rfl)) (by omega) (fun _ _ _ => noL_sD _)) (by rw [List.filter_eq_self.mpr (fun _ _ => rfl), List.map_map]; rfl))) (by rw [List.length_map, List.length_map, List.length_map]; omega)) ?_))) (Γ2 := G11 (lotsL (st.take (j + 1)))) ⟨rfl, rfl, rfl, rfl, rfl, rfl, rfl, trivial⟩
    rw [take_snoc hj, lotsL_snoc]
    unfold lotIn
    rw [List.map_append]
  · refine ⟨rfl, rfl, rfl, rfl, rfl, rfl, ?_, trivial⟩
    show some (dt (.list ((lotsL (st.take st.length)).map sD))) = some (dt (.list ((lotsL st).map sD)))
    rw [List.take_length]
  have lotOk2 : ∀ s ∈ lotsL st, IsSet n s := fun s hs => lotOk st.length s (by rw [List.take_length]; exact hs)
  have lotLen2 : (lotsL st).length ≤ 64 := by have := lotLen st.length; rwa [List.take_length] at this
  let FN := (lotsL st).filter (agreedB a b)
  let G12 : Gm := [some (scrT K ss), some (deckT d c cs k4), some (dt (.int n)), some (dt (.list (ps.map prD))), none, none, none, none, none, some (dt (sD st)), none, some (strA l (wL C a b st)), none, none, none, some (dt (.list ((lotsL st).map sD))), some (dt (.list (FN.map sD))), none, none]
  refine Js.step (Γ1 := G12) (C1 := True) (js_asg (i := 16) (jd_of_jf (jf_lc (xs := lotsL st) (Y := fun s => dt (sD s)) (bind := fun s Γ => Γ.set 14 (some (dt (sD s)))) (p := agreedB a b) (q := sD) (ji_lst (D := sD) (jd_var (i := 15) rfl)) (tg_name 14) (fun s hs => jt_B (jd_call (S := sg_is_agreed C) (a, b, s) ⟨two, lotOk2 s hs⟩ (ja_cons (w_near (wv rfl)) (ja_cons (w_far (wv rfl)) (ja_cons (jd_var (i := 14) rfl) ja_nil))))) (fun s hs _ => jd_var (i := 14) rfl) (by omega) (fun _ _ _ => noL_sD _)))) ty12 fun _ σ13 H13 e13 ty13 => ?_
  refine Js.step (Γ1 := G12) (C1 := True) (js_for (xs := lotsL st) (Y := fun s => dt (sD s)) (bind := fun s Γ => Γ.set 14 (some (dt (sD s)))) (Γs := fun _ => G12) (C := fun _ => True) (ji_lst (D := sD) (jd_var (i := 15) rfl)) (tg_name 14) trivial fun j s hj _ => ?_) ty13 fun _ σ14 H14 e14 ty14 => ?_
  · have hs : s ∈ lotsL st := List.mem_of_getElem? hj
    have is := lotOk2 s hs
    have l6 := ln is
    let G13 : Gm := [some (scrT K ss), some (deckT d c cs k4), some (dt (.int n)), some (dt (.list (ps.map prD))), none, some (dt (.list ((s.map (sideP ps 0)).map .int))), some (dt (.list ((s.map (sideP ps 1)).map .int))), none, none, some (dt (sD st)), none, some (strA l (wL C a b st)), none, none, some (dt (sD s)), some (dt (.list ((lotsL st).map sD))), some (dt (.list (FN.map sD))), none, none]
    refine js_weak (js_seq (Γ1 := G13) (C1 := True) (js_par2 (i := 5) (j := 6) (jd_of_jf (jd_people (i := 0) (bd is) (by omega) (.inl rfl) rfl (fun x => rfl) (fun x => rfl) fun x => jd_int)) (jd_of_jf (jd_people (i := 1) (bd is) (by omega) (.inr rfl) rfl (fun x => rfl) (fun x => rfl) fun x => jd_int))) fun _ =>
      js_guard (Jt.eq (jt_test (jd_neD (d := .bool (decide (s ∈ FN))) (e := .bool (decide ((cntI (s.map (sideP ps 0)) : Int) = (s.length : Int)) && decide ((s.length : Int) = (cntI (s.map (sideP ps 1)) : Int)))) (Jd.eq (jd_inL (d := sD s) (ds := FN.map sD) (jd_var (i := 14) rfl) (jd_var (i := 16) rfl) (sh_sD1 s) (sh_setsL0 _)) (by rw [any_sets])) (jd_chain (jd_lenSet2 (i := 5) (s := s.map (sideP ps 0)) rfl (by rw [List.length_map]; omega)) (jd_lenS (jd_var (i := 14) (T := dt (sD s)) rfl)) (fun x y H Q p1 p2 kq => r_eqI p1 p2 kq) (fun _ => jd_lenSet2 (i := 6) (s := s.map (sideP ps 1)) rfl (by rw [List.length_map]; omega)) fun _ x y H Q p1 p2 kq => r_eqI p1 p2 kq) (sh_bool1 _) (sh_bool1 _))) ?_)) (Γ1 := G13) ⟨rfl, rfl, rfl, rfl, rfl, rfl, rfl, rfl, trivial⟩
    have key : decide (s ∈ FN) = (decide ((cntI (s.map (sideP ps 0)) : Int) = (s.length : Int)) && decide ((s.length : Int) = (cntI (s.map (sideP ps 1)) : Int))) := by
      have c0 := cntI_iff (s := s.map (sideP ps 0))
      have c1 := cntI_iff (s := s.map (sideP ps 1))
      rw [List.length_map] at c0 c1
      have ag : agreedB a b s = true ↔ (s.map (sideP ps 0)).Nodup ∧ (s.map (sideP ps 1)).Nodup := M.agreed_nodup is
      rw [← c0, ← c1] at ag
      have mf : s ∈ FN ↔ agreedB a b s = true := by
        show s ∈ (lotsL st).filter (agreedB a b) ↔ _
        rw [List.mem_filter]
        exact ⟨fun h => h.2, fun h => ⟨hs, h⟩⟩
      rw [Bool.eq_iff_iff, decide_eq_true_eq, Bool.and_eq_true, decide_eq_true_eq, decide_eq_true_eq, mf, ag]
      constructor
      · rintro ⟨h1, h2⟩
        exact ⟨by omega, by omega⟩
      · rintro ⟨h1, h2⟩
        exact ⟨by omega, by omega⟩
    rw [key]
    simp [PyData.eqv]
  have ld : l ≠ d := fun z => dl z.symm
  have dkW : ∀ p ∈ wL C a b st, DkS p.2 := fun p hp => by
    rcases List.mem_cons.mp hp with rfl | hp
    · exact dk_cho _ _
    rcases List.mem_cons.mp hp with rfl | hp
    · exact dk_cho _ _
    rcases List.mem_cons.mp hp with rfl | hp
    · exact dk_dt _
    rw [List.mem_singleton.mp hp]
    exact dk_dt _
  let M14 : Int → Mm := fun k => [none, some (.dek d c cs k), some (.arg (dt (.int n))), none, none, none, none, none, none, none, none, some (.arg (strA l (wL C a b st))), none, none, none, none, some (.arg (dt (.list (FN.map sD)))), none, none]
  obtain ⟨_, _, _, hd14, _⟩ := ty14.at_ 1 (deckT d c cs k4) rfl
  have tm14 : TyM (er H14 d) (M14 (k4 + ((0 : Nat) : Int))) σ14 H14 := by
    rw [show k4 + ((0 : Nat) : Int) = k4 by omega]
    exact tym_up (k := 1) (Γ := M14 k4) ty14 hd14 ⟨rfl, rfl, rfl, (dk_dt _).er _, rfl, er_strA ld dkW, rfl, (dk_dt _).er _, trivial⟩ (OwnAt.one (k := 1) (Γ := M14 k4) ⟨fun _ => rfl, fun z => (by cases z), fun z => (by cases z), fun z => (by cases z), trivial⟩)
  have inF : ∀ s ∈ FN, Dom4 a b st s := fun s hs => by
    obtain ⟨q1, q2⟩ := List.mem_filter.mp hs
    obtain ⟨q3, q4⟩ := lots_ok _ st rfl hst.1 s q1
    exact ⟨⟨⟨two, hst⟩, lotOk2 s q1, q4⟩, q2⟩
  have nilF : [] ∈ FN := List.mem_filter.mpr ⟨nil_lots _ st rfl, (M.agreed_nodup (isSet_nil n)).mpr ⟨List.nodup_nil, List.nodup_nil⟩⟩
  have F0 : (0 : Int) < (FN.length : Int) := by have := List.length_pos_of_mem nilF; omega
  have k4a : 0 ≤ k4 ∧ k4 ≤ 100 := by show 0 ≤ k3 + (n : Int) ∧ k3 + (n : Int) ≤ 100; omega
  refine Jm.stepN (Γ1 := M14 (k4 + 3)) (C1 := True) (jm_forR (hi := 3) (bd := fun i Γ => Γ.set 17 (some (.dat (.int i)))) (Γs := fun i => M14 (k4 + (i : Int))) (C := fun _ => True) (ja_cons jd_int ja_nil) (by decide) (by decide) (tm_name 17) trivial fun i hi _ => ?_) tm14 fun _ σ15 H15 f15 ty15 => ?_
  · let x := drawV cs (k4 + (i : Int)) FN.length
    obtain ⟨g1, g2⟩ := get_sets (L := FN) (i := x) (drawV_0 F0) (drawV_lt F0)
    refine Jm.imp (jm_guardE (Γ' := (M14 (k4 + (i : Int) + 1)).set 17 (some (.dat (.int i)))) (JtE.eq (je_not (je_B (je_callB (S := sg__law_part_right C) (T := strA l (wL C a b st)) (T2 := wT C a b st) (d := .bool true) (d1 := sD (FN.getD x.toNat [])) (a, b, st, FN.getD x.toNat []) ⟨inF _ g2, _, _, _, _, M⟩ rfl rfl rfl (fun v H p => strA_T p) (je_opA (j := 16) (T := dt (.list (FN.map sD))) (d2 := .int x) rfl rfl (je_draw (C := C) (i := 1) (l := d) (c := c) (cs := cs) (n := k4 + (i : Int)) (b := FN.length) rfl (Jd.eq (jd_lenL (jd_var (i := 16) (T := dt (.list (FN.map sD))) rfl)) (by rw [List.length_map])) F0 (by omega) (by omega) cl) (r_ixA g1))))) rfl)) (fun _ => trivial) ⟨?_, rfl, rfl, rfl, trivial⟩
    show some (MT.dek d c cs (k4 + (i : Int) + 1)) = some (MT.dek d c cs (k4 + ((i + 1 : Nat) : Int)))
    rw [show k4 + ((i + 1 : Nat) : Int) = k4 + (i : Int) + 1 by omega]
  have Gn : Agr a (pA ps) (pB ps) st [] := ⟨isSet_nil _, fun x hx => (by cases hx), fun x hx => (by cases hx), fun x hx => (by cases hx)⟩
  have Dn : Dom1 a b st [] := ⟨two, hst, isSet_nil _⟩
  have S0 : (0 : Int) < ((settledL a b st).length : Int) := by
    obtain ⟨u, hu⟩ := List.exists_mem_of_ne_nil _ (M.ends_ne Dn Gn)
    have h2 : 0 < (settledL a b st).length := List.length_pos_of_mem (M.ends_settled Dn Gn hu)
    omega
  let y := drawV cs (k4 + 3) (settledL a b st).length
  obtain ⟨g1, g2⟩ := get_sets (L := settledL a b st) (i := y) (drawV_0 S0) (drawV_lt S0)
  let pt := (settledL a b st).getD y.toNat []
  have wm : ∀ {Γ : Gm}, Γ[11]? = some (some (strA l (wL C a b st))) → Jd Γ (tVar 11) (wT C a b st) := fun {Γ} e => Jd.imp (jd_var e) fun v H p => strA_T p
  refine Jm.stepN (Γ1 := (M14 (k4 + 3 + 1)).set 18 (some (.dat (sD pt)))) (C1 := True) (jm_asgJ (i := 18) (je_op (d1 := setsD (settledL a b st)) (d2 := .int y) (je_pure (w_se (wm rfl))) (by unfold setsD; rw [noL_tuple]; exact noLs_sets _) (je_draw (C := C) (i := 1) (l := d) (c := c) (cs := cs) (n := k4 + 3) (b := (settledL a b st).length) rfl (Jd.eq (jd_lenT (ds := (settledL a b st).map sD) (w_se (wm rfl))) (by rw [List.length_map])) S0 (by omega) (by omega) cl) (r_ixB g1)) (noL_sD _)) ty15 fun _ σ16 H16 f16 ty16 => ?_
  obtain ⟨ag, wn⟩ := (M.mem_settled hst).mp g2
  have D5 : Dom5 a b st pt := ⟨⟨⟨two, hst⟩, ag.set, ag.sub⟩, (M.settled_iff ag.set ag.sub).mpr ⟨ag, wn⟩⟩
  refine (jd_eqD (e := .list []) (jd_of_jf (jf_lc (xs := rgI 0 (n : Int).toNat) (Y := fun x => dt (.int x)) (bind := fun x Γ => Γ.set 10 (some (dt (.int x)))) (p := fun _ => false) (q := fun _ => .none) (ji_range1 (hi := (n : Int)) (ja_cons (jd_var (i := 2) rfl) ja_nil) (by omega) (by omega)) (tg_name 10) (fun x hx => ?_) (fun x hx h => by cases h) (by rw [rgI_len]; omega) (fun s _ h => by cases h))) (jd_of_jf (jf_lst (ds := []) ja_nil (by simp))) ?_ (sh_ints [])) σ16 H16 ty16.ty _ fun v H17 e17 p17 => ?_
  · have hx2 : 0 ≤ x ∧ x < (a.n : Int) := by
      have := mem_rgI.mp hx
      show 0 ≤ x ∧ x < (n : Int)
      omega
    exact Jt.eq (jt_not (jt_B (jd_call (S := sg__law_change_right C) (a, b, st, pt, x) ⟨⟨D5, hx2⟩, _, _, _, _, M⟩ (ja_cons (wm rfl) (ja_cons (jd_var (i := 18) rfl) (ja_cons (jd_var (i := 10) rfl) ja_nil)))))) rfl
  · rw [List.filter_eq_nil_iff.mpr fun _ _ => by simp]
    exact sh_ints []
  · rw [of_bl p17, List.filter_eq_nil_iff.mpr fun _ _ => by simp]
    have : PyData.eqv (.list (([] : List Int).map fun _ => PyData.none)) (.list []) = true := by simp [PyData.eqv, PyData.eqvAll]
    rw [this]
    exact hq H17
end Ost
set_option Elab.async false
set_option linter.all false
set_option maxRecDepth 100000
set_option maxHeartbeats 0
/-! HD2: each def by its name, the theorem. -/
namespace Ost
open PySem PySem.Spec PyProof.Rows L2
open C8 (Cal pe_c Mak pe_mk Met pe_gc)
def cnO (K : PySem.W.Frag) : Cn := ⟨He.ga K "Chooser", (He.cT K ("press_in_order", none)).2⟩
theorem top_ok {K : PySem.W.Frag} {w : World} {h : Heap} {mg : Str → Option Value} (X : K.In h) (G : h.Ns mainGlobals mg) (c : He.SaysD faL fnL K) : Top K mg (cnO K) := by
  obtain ⟨t, ht⟩ := He.int_ok X G (c.fact 78 (f := .int "CHOOSER_MOST" 6) rfl)
  exact ⟨He.free_ok X G (c.fact 64 (f := .free "isinstance") rfl), He.free_ok X G (c.fact 65 (f := .free "int") rfl), He.free_ok X G (c.fact 66 (f := .free "bool") rfl), He.free_ok X G (c.fact 67 (f := .free "tuple") rfl), He.free_ok X G (c.fact 68 (f := .free "len") rfl), He.free_ok X G (c.fact 69 (f := .free "range") rfl), He.free_ok X G (c.fact 70 (f := .free "sorted") rfl), He.free_ok X G (c.fact 71 (f := .free "set") rfl), He.free_ok X G (c.fact 72 (f := .free "all") rfl), He.free_ok X G (c.fact 73 (f := .free "enumerate") rfl), He.free_ok X G (c.fact 74 (f := .free "list") rfl), He.free_ok X G (c.fact 75 (f := .free "zip") rfl), He.free_ok X G (c.fact 76 (f := .free "dict") rfl), He.free_ok X G (c.fact 77 (f := .free "max") rfl), ⟨_, ht, t, rfl⟩, He.cls_ok (c.fact 79 (f := .cls "Chooser") rfl), He.noat_ok (c.fact 80 (f := .noat "Chooser" "offers") rfl), He.noat_ok (c.fact 81 (f := .noat "Chooser" "picks") rfl), He.noat_ok (c.fact 82 (f := .noat "Chooser" "table") rfl), He.noat_ok (c.fact 83 (f := .noat "Chooser" "places") rfl)⟩
theorem facts {w : World} {K : PySem.W.Frag} {h : Heap} {mg : Str → Option Value} {fa : Addr} (X : K.In h) (G : h.Ns mainGlobals mg) (hfa : mg ("law" : Str) = some (.ref fa)) (cx : He.SaysX faL fnL [] tfL (fun _ => true) w h K) : LamX.LawAtS PySem.Challenge.rw_offerstands_k48_whole_loans_pressed_in w K L2.CX0 10 63 "_law_script" mg fa h := by
  have c : He.SaysD faL fnL K := cx.t.d
  obtain ⟨fd__law_deck, F__law_deck⟩ := c.def_ 0 (d := d__law_deck) rfl
  obtain ⟨fd_same_offers, F_same_offers⟩ := c.def_ 1 (d := d_same_offers) rfl
  obtain ⟨fd_is_whole, F_is_whole⟩ := c.def_ 2 (d := d_is_whole) rfl
  obtain ⟨fd_is_set, F_is_set⟩ := c.def_ 3 (d := d_is_set) rfl
  obtain ⟨fd_side_check_set, F_side_check_set⟩ := c.def_ 4 (d := d_side_check_set) rfl
  obtain ⟨fd_side_check_standing, F_side_check_standing⟩ := c.def_ 5 (d := d_side_check_standing) rfl
  obtain ⟨fd_all_sets, F_all_sets⟩ := c.def_ 6 (d := d_all_sets) rfl
  obtain ⟨fd_subsets_of, F_subsets_of⟩ := c.def_ 7 (d := d_subsets_of) rfl
  obtain ⟨fd_agreed_by, F_agreed_by⟩ := c.def_ 8 (d := d_agreed_by) rfl
  obtain ⟨fd_together, F_together⟩ := c.def_ 9 (d := d_together) rfl
  obtain ⟨fd_side_set_with, F_side_set_with⟩ := c.def_ 10 (d := d_side_set_with) rfl
  obtain ⟨fd_wished_beside, F_wished_beside⟩ := c.def_ 11 (d := d_wished_beside) rfl
  obtain ⟨fd_side_settled, F_side_settled⟩ := c.def_ 12 (d := d_side_settled) rfl
  obtain ⟨fd_settled_among, F_settled_among⟩ := c.def_ 13 (d := d_settled_among) rfl
  obtain ⟨fd_settled_sets, F_settled_sets⟩ := c.def_ 14 (d := d_settled_sets) rfl
  obtain ⟨fd__law_draw, F__law_draw⟩ := c.def_ 15 (d := d__law_draw) rfl
  obtain ⟨fd__law_orders, F__law_orders⟩ := c.def_ 16 (d := d__law_orders) rfl
  obtain ⟨fd_chooser_is_part, F_chooser_is_part⟩ := c.def_ 17 (d := d_chooser_is_part) rfl
  obtain ⟨fd_is_list, F_is_list⟩ := c.def_ 18 (d := d_is_list) rfl
  obtain ⟨fd_list_first, F_list_first⟩ := c.def_ 19 (d := d_list_first) rfl
  obtain ⟨fd_firsts, F_firsts⟩ := c.def_ 20 (d := d_firsts) rfl
  obtain ⟨fd_by_lists, F_by_lists⟩ := c.def_ 21 (d := d_by_lists) rfl
  obtain ⟨fd_first_shrinking, F_first_shrinking⟩ := c.def_ 22 (d := d_first_shrinking) rfl
  obtain ⟨fd_does_shrink, F_does_shrink⟩ := c.def_ 23 (d := d_does_shrink) rfl
  obtain ⟨fd_rounds_of, F_rounds_of⟩ := c.def_ 24 (d := d_rounds_of) rfl
  obtain ⟨fd_best_settled, F_best_settled⟩ := c.def_ 25 (d := d_best_settled) rfl
  obtain ⟨fd_is_agreed, F_is_agreed⟩ := c.def_ 26 (d := d_is_agreed) rfl
  obtain ⟨fd_side_is_part, F_side_is_part⟩ := c.def_ 27 (d := d_side_is_part) rfl
  obtain ⟨fd_side_check_part, F_side_check_part⟩ := c.def_ 28 (d := d_side_check_part) rfl
  obtain ⟨fd_press_check, F_press_check⟩ := c.def_ 29 (d := d_press_check) rfl
  obtain ⟨fd_press_behind, F_press_behind⟩ := c.def_ 30 (d := d_press_behind) rfl
  obtain ⟨fd_press_moves, F_press_moves⟩ := c.def_ 31 (d := d_press_moves) rfl
  obtain ⟨fd_first_chain, F_first_chain⟩ := c.def_ 32 (d := d_first_chain) rfl
  obtain ⟨fd_press_in_order, F_press_in_order⟩ := c.def_ 33 (d := d_press_in_order) rfl
  obtain ⟨fd_chain_settled_ends, F_chain_settled_ends⟩ := c.def_ 34 (d := d_chain_settled_ends) rfl
  obtain ⟨fd_press_graph, F_press_graph⟩ := c.def_ 35 (d := d_press_graph) rfl
  obtain ⟨fd_chain_ends, F_chain_ends⟩ := c.def_ 36 (d := d_chain_ends) rfl
  obtain ⟨fd_side_is_offer, F_side_is_offer⟩ := c.def_ 37 (d := d_side_is_offer) rfl
  obtain ⟨fd_pressed_all, F_pressed_all⟩ := c.def_ 38 (d := d_pressed_all) rfl
  obtain ⟨fd_parts_behind, F_parts_behind⟩ := c.def_ 39 (d := d_parts_behind) rfl
  obtain ⟨fd_ring_ranks, F_ring_ranks⟩ := c.def_ 40 (d := d_ring_ranks) rfl
  obtain ⟨fd_ring_walk, F_ring_walk⟩ := c.def_ 41 (d := d_ring_walk) rfl
  obtain ⟨fd_judge_ends, F_judge_ends⟩ := c.def_ 42 (d := d_judge_ends) rfl
  obtain ⟨fd_longest_chain, F_longest_chain⟩ := c.def_ 43 (d := d_longest_chain) rfl
  obtain ⟨fd_judge_chain, F_judge_chain⟩ := c.def_ 44 (d := d_judge_chain) rfl
  obtain ⟨fd_chain_end_of, F_chain_end_of⟩ := c.def_ 45 (d := d_chain_end_of) rfl
  obtain ⟨fd_chain_holds, F_chain_holds⟩ := c.def_ 46 (d := d_chain_holds) rfl
  obtain ⟨fd_does_go_round, F_does_go_round⟩ := c.def_ 47 (d := d_does_go_round) rfl
  obtain ⟨fd_chain_is_part, F_chain_is_part⟩ := c.def_ 48 (d := d_chain_is_part) rfl
  obtain ⟨fd_ring_is_rank, F_ring_is_rank⟩ := c.def_ 49 (d := d_ring_is_rank) rfl
  obtain ⟨fd_ring_ranks_hold, F_ring_ranks_hold⟩ := c.def_ 50 (d := d_ring_ranks_hold) rfl
  obtain ⟨fd_ends_hold, F_ends_hold⟩ := c.def_ 51 (d := d_ends_hold) rfl
  obtain ⟨fd_is_settled, F_is_settled⟩ := c.def_ 52 (d := d_is_settled) rfl
  obtain ⟨fd__law_part_right, F__law_part_right⟩ := c.def_ 53 (d := d__law_part_right) rfl
  obtain ⟨fd_change_check_settled, F_change_check_settled⟩ := c.def_ 54 (d := d_change_check_settled) rfl
  obtain ⟨fd_change_outcomes, F_change_outcomes⟩ := c.def_ 55 (d := d_change_outcomes) rfl
  obtain ⟨fd_side_set_without, F_side_set_without⟩ := c.def_ 56 (d := d_side_set_without) rfl
  obtain ⟨fd_without_offer, F_without_offer⟩ := c.def_ 57 (d := d_without_offer) rfl
  obtain ⟨fd_change_check_new, F_change_check_new⟩ := c.def_ 58 (d := d_change_check_new) rfl
  obtain ⟨fd_with_offer, F_with_offer⟩ := c.def_ 59 (d := d_with_offer) rfl
  obtain ⟨fd_is_touched, F_is_touched⟩ := c.def_ 60 (d := d_is_touched) rfl
  obtain ⟨fd__law_change_right, F__law_change_right⟩ := c.def_ 61 (d := d__law_change_right) rfl
  obtain ⟨fd_law, F_law⟩ := c.def_ 62 (d := d_law) rfl
  obtain ⟨fd_ch_init, F_ch_init⟩ := c.def_ 63 (d := d_ch_init) rfl
  obtain ⟨fd_ch_len, F_ch_len⟩ := c.def_ 64 (d := d_ch_len) rfl
  have ef := hfa.symm.trans (He.glo_ok X G (c.fact 62 (f := .glo "law") rfl))
  cases ef
  have bl := FunD.bindsA (ps := ["_law_script"]) F_law fun _ _ _ _ _ _ us hl => match us, hl with | [_], _ => rfl
  have pm : (("press_in_order", none) : He.Defn) ∈ tfL := List.mem_singleton.mpr rfl
  refine ⟨fd_law, [He.cT K ("press_in_order", none)], sp_law K (cnO K), fun p hp => ?_, fun p hp => ?_, fun p hp => ?_, fun s v => bl s [v] rfl, fun H a ns hl _ hT hS => ⟨.ref a, ns, rfl, ⟨a, rfl, hS⟩, hl, LamX.TabS.nil (hT _ (List.mem_singleton.mpr rfl)), fun _ => rfl⟩, fun base KB NB TB => ?_⟩
  · rw [List.mem_singleton.mp hp]; exact cx.empty _ pm
  · rw [List.mem_singleton.mp hp]; exact cx.out _ pm
  · rw [List.mem_singleton.mp hp]; exact PySem.W.codeHd_of_K X (cx.hd _ pm)
  have T : Top K mg (cnO K) := top_ok (w := w) X G c
  have tb := TB _ (List.mem_singleton.mpr rfl)
  have hcd : fd_press_in_order.code = .ref (He.cT K ("press_in_order", none)).1 := by
    obtain ⟨oc, od, dV, kV, doc, pm2, an, cdv, ct, osl, e1, lk, hcode, _, _⟩ := F_press_in_order.ex
    obtain ⟨c0, e2⟩ := He.codeIn_ref hcode
    have e3 : fd_press_in_order.code = .ref c0 := by rw [e1]; exact e2
    have e4 : He.codeOf K ("press_in_order", none) = c0 := He.codeOf_eq lk e3
    rw [e3]
    show Value.ref c0 = .ref (He.codeOf K ("press_in_order", none))
    rw [e4]
  have c__law_deck := ok__law_deck (P := PySem.Challenge.rw_offerstands_k48_whole_loans_pressed_in.prog) (w := w) (K := K) (mg := mg) (base := base) (C := cnO K) F__law_deck (He.glo_ok X G (c.fact 0 (f := .glo "_law_deck") rfl)) T 
  have LC := ok_ch_len (P := PySem.Challenge.rw_offerstands_k48_whole_loans_pressed_in.prog) (w := w) (K := K) (mg := mg) (base := base) (C := cnO K) F_ch_len (He.meth_ok (c.fact 84 (f := .meth "Chooser" "__len__") rfl)) T
  have c_same_offers := ok_same_offers (P := PySem.Challenge.rw_offerstands_k48_whole_loans_pressed_in.prog) (w := w) (K := K) (mg := mg) (base := base) (C := cnO K) F_same_offers (He.glo_ok X G (c.fact 1 (f := .glo "same_offers") rfl)) T LC 
  have c_is_whole := ok_is_whole (P := PySem.Challenge.rw_offerstands_k48_whole_loans_pressed_in.prog) (w := w) (K := K) (mg := mg) (base := base) (C := cnO K) F_is_whole (He.glo_ok X G (c.fact 2 (f := .glo "is_whole") rfl)) T 
  have c_is_set := ok_is_set (P := PySem.Challenge.rw_offerstands_k48_whole_loans_pressed_in.prog) (w := w) (K := K) (mg := mg) (base := base) (C := cnO K) F_is_set (He.glo_ok X G (c.fact 3 (f := .glo "is_set") rfl)) T c_is_whole
  have c_side_check_set := ok_side_check_set (P := PySem.Challenge.rw_offerstands_k48_whole_loans_pressed_in.prog) (w := w) (K := K) (mg := mg) (base := base) (C := cnO K) F_side_check_set (He.glo_ok X G (c.fact 4 (f := .glo "side_check_set") rfl)) T LC c_is_set
  have c_side_check_standing := ok_side_check_standing (P := PySem.Challenge.rw_offerstands_k48_whole_loans_pressed_in.prog) (w := w) (K := K) (mg := mg) (base := base) (C := cnO K) F_side_check_standing (He.glo_ok X G (c.fact 5 (f := .glo "side_check_standing") rfl)) T c_same_offers c_side_check_set
  have c_all_sets := ok_all_sets (P := PySem.Challenge.rw_offerstands_k48_whole_loans_pressed_in.prog) (w := w) (K := K) (mg := mg) (base := base) (C := cnO K) F_all_sets (He.glo_ok X G (c.fact 6 (f := .glo "all_sets") rfl)) T 
  have c_subsets_of := ok_subsets_of (P := PySem.Challenge.rw_offerstands_k48_whole_loans_pressed_in.prog) (w := w) (K := K) (mg := mg) (base := base) (C := cnO K) F_subsets_of (He.glo_ok X G (c.fact 7 (f := .glo "subsets_of") rfl)) T c_all_sets
  have c_agreed_by := ok_agreed_by (P := PySem.Challenge.rw_offerstands_k48_whole_loans_pressed_in.prog) (w := w) (K := K) (mg := mg) (base := base) (C := cnO K) F_agreed_by (He.glo_ok X G (c.fact 8 (f := .glo "agreed_by") rfl)) T 
  have c_together := ok_together (P := PySem.Challenge.rw_offerstands_k48_whole_loans_pressed_in.prog) (w := w) (K := K) (mg := mg) (base := base) (C := cnO K) F_together (He.glo_ok X G (c.fact 9 (f := .glo "together") rfl)) T 
  have c_side_set_with := ok_side_set_with (P := PySem.Challenge.rw_offerstands_k48_whole_loans_pressed_in.prog) (w := w) (K := K) (mg := mg) (base := base) (C := cnO K) F_side_set_with (He.glo_ok X G (c.fact 10 (f := .glo "side_set_with") rfl)) T c_together
  have c_wished_beside := ok_wished_beside (P := PySem.Challenge.rw_offerstands_k48_whole_loans_pressed_in.prog) (w := w) (K := K) (mg := mg) (base := base) (C := cnO K) F_wished_beside (He.glo_ok X G (c.fact 11 (f := .glo "wished_beside") rfl)) T c_side_set_with
  have c_side_settled := ok_side_settled (P := PySem.Challenge.rw_offerstands_k48_whole_loans_pressed_in.prog) (w := w) (K := K) (mg := mg) (base := base) (C := cnO K) F_side_settled (He.glo_ok X G (c.fact 12 (f := .glo "side_settled") rfl)) T c_agreed_by c_wished_beside
  have c_settled_among := ok_settled_among (P := PySem.Challenge.rw_offerstands_k48_whole_loans_pressed_in.prog) (w := w) (K := K) (mg := mg) (base := base) (C := cnO K) F_settled_among (He.glo_ok X G (c.fact 13 (f := .glo "settled_among") rfl)) T c_subsets_of c_side_settled
  have c_settled_sets := ok_settled_sets (P := PySem.Challenge.rw_offerstands_k48_whole_loans_pressed_in.prog) (w := w) (K := K) (mg := mg) (base := base) (C := cnO K) F_settled_sets (He.glo_ok X G (c.fact 14 (f := .glo "settled_sets") rfl)) T c_side_check_standing c_settled_among
  have c__law_draw := ok__law_draw (P := PySem.Challenge.rw_offerstands_k48_whole_loans_pressed_in.prog) (w := w) (K := K) (mg := mg) (base := base) (C := cnO K) F__law_draw (He.glo_ok X G (c.fact 15 (f := .glo "_law_draw") rfl)) T 
  have c__law_orders := ok__law_orders (P := PySem.Challenge.rw_offerstands_k48_whole_loans_pressed_in.prog) (w := w) (K := K) (mg := mg) (base := base) (C := cnO K) F__law_orders (He.glo_ok X G (c.fact 16 (f := .glo "_law_orders") rfl)) T c__law_draw
  have c_chooser_is_part := ok_chooser_is_part (P := PySem.Challenge.rw_offerstands_k48_whole_loans_pressed_in.prog) (w := w) (K := K) (mg := mg) (base := base) (C := cnO K) F_chooser_is_part (He.glo_ok X G (c.fact 17 (f := .glo "chooser_is_part") rfl)) T 
  have c_ch_init := ok_ch_init (P := PySem.Challenge.rw_offerstands_k48_whole_loans_pressed_in.prog) (w := w) (K := K) (mg := mg) (base := base) (C := cnO K) F_ch_init (He.mkr_ok (c.fact 85 (f := .mkr "Chooser") rfl)) (He.glo_ok X G (c.fact 63 (f := .glo "Chooser") rfl)) T c_all_sets c_is_whole c_is_set c_chooser_is_part
  have c_is_list := ok_is_list (P := PySem.Challenge.rw_offerstands_k48_whole_loans_pressed_in.prog) (w := w) (K := K) (mg := mg) (base := base) (C := cnO K) F_is_list (He.glo_ok X G (c.fact 18 (f := .glo "is_list") rfl)) T c_is_whole
  have c_list_first := ok_list_first (P := PySem.Challenge.rw_offerstands_k48_whole_loans_pressed_in.prog) (w := w) (K := K) (mg := mg) (base := base) (C := cnO K) F_list_first (He.glo_ok X G (c.fact 19 (f := .glo "list_first") rfl)) T 
  have c_firsts := ok_firsts (P := PySem.Challenge.rw_offerstands_k48_whole_loans_pressed_in.prog) (w := w) (K := K) (mg := mg) (base := base) (C := cnO K) F_firsts (He.glo_ok X G (c.fact 20 (f := .glo "firsts") rfl)) T c_list_first
  have c_by_lists := ok_by_lists (P := PySem.Challenge.rw_offerstands_k48_whole_loans_pressed_in.prog) (w := w) (K := K) (mg := mg) (base := base) (C := cnO K) F_by_lists (He.glo_ok X G (c.fact 21 (f := .glo "by_lists") rfl)) T c_ch_init c_is_list c_firsts c_all_sets
  have c_first_shrinking := ok_first_shrinking (P := PySem.Challenge.rw_offerstands_k48_whole_loans_pressed_in.prog) (w := w) (K := K) (mg := mg) (base := base) (C := cnO K) F_first_shrinking (He.glo_ok X G (c.fact 22 (f := .glo "first_shrinking") rfl)) T LC c_all_sets c_side_set_with
  have c_does_shrink := ok_does_shrink (P := PySem.Challenge.rw_offerstands_k48_whole_loans_pressed_in.prog) (w := w) (K := K) (mg := mg) (base := base) (C := cnO K) F_does_shrink (He.glo_ok X G (c.fact 23 (f := .glo "does_shrink") rfl)) T c_first_shrinking
  have c_rounds_of := ok_rounds_of (P := PySem.Challenge.rw_offerstands_k48_whole_loans_pressed_in.prog) (w := w) (K := K) (mg := mg) (base := base) (C := cnO K) F_rounds_of (He.glo_ok X G (c.fact 24 (f := .glo "rounds_of") rfl)) T c_side_check_standing c_together
  have c_best_settled := ok_best_settled (P := PySem.Challenge.rw_offerstands_k48_whole_loans_pressed_in.prog) (w := w) (K := K) (mg := mg) (base := base) (C := cnO K) F_best_settled (He.glo_ok X G (c.fact 25 (f := .glo "best_settled") rfl)) T c_rounds_of
  have c_is_agreed := ok_is_agreed (P := PySem.Challenge.rw_offerstands_k48_whole_loans_pressed_in.prog) (w := w) (K := K) (mg := mg) (base := base) (C := cnO K) F_is_agreed (He.glo_ok X G (c.fact 26 (f := .glo "is_agreed") rfl)) T c_side_check_standing c_agreed_by
  have c_side_is_part := ok_side_is_part (P := PySem.Challenge.rw_offerstands_k48_whole_loans_pressed_in.prog) (w := w) (K := K) (mg := mg) (base := base) (C := cnO K) F_side_is_part (He.glo_ok X G (c.fact 27 (f := .glo "side_is_part") rfl)) T 
  have c_side_check_part := ok_side_check_part (P := PySem.Challenge.rw_offerstands_k48_whole_loans_pressed_in.prog) (w := w) (K := K) (mg := mg) (base := base) (C := cnO K) F_side_check_part (He.glo_ok X G (c.fact 28 (f := .glo "side_check_part") rfl)) T LC c_side_check_standing c_is_set c_side_is_part
  have c_press_check := ok_press_check (P := PySem.Challenge.rw_offerstands_k48_whole_loans_pressed_in.prog) (w := w) (K := K) (mg := mg) (base := base) (C := cnO K) F_press_check (He.glo_ok X G (c.fact 29 (f := .glo "press_check") rfl)) T c_side_check_part c_agreed_by
  have c_press_behind := ok_press_behind (P := PySem.Challenge.rw_offerstands_k48_whole_loans_pressed_in.prog) (w := w) (K := K) (mg := mg) (base := base) (C := cnO K) F_press_behind (He.glo_ok X G (c.fact 30 (f := .glo "press_behind") rfl)) T c_side_set_with
  have c_press_moves := ok_press_moves (P := PySem.Challenge.rw_offerstands_k48_whole_loans_pressed_in.prog) (w := w) (K := K) (mg := mg) (base := base) (C := cnO K) F_press_moves (He.glo_ok X G (c.fact 31 (f := .glo "press_moves") rfl)) T c_press_behind c_wished_beside
  have c_first_chain := ok_first_chain (P := PySem.Challenge.rw_offerstands_k48_whole_loans_pressed_in.prog) (w := w) (K := K) (mg := mg) (base := base) (C := cnO K) F_first_chain (He.glo_ok X G (c.fact 32 (f := .glo "first_chain") rfl)) T c_press_check c_press_moves
  have c_press_in_order := ok_press_in_order (P := PySem.Challenge.rw_offerstands_k48_whole_loans_pressed_in.prog) (w := w) (K := K) (mg := mg) (base := base) (C := cnO K) F_press_in_order (He.glo_ok X G (c.fact 33 (f := .glo "press_in_order") rfl)) T hcd tb
  have c_chain_settled_ends := ok_chain_settled_ends (P := PySem.Challenge.rw_offerstands_k48_whole_loans_pressed_in.prog) (w := w) (K := K) (mg := mg) (base := base) (C := cnO K) F_chain_settled_ends (He.glo_ok X G (c.fact 34 (f := .glo "chain_settled_ends") rfl)) T c_press_in_order
  have c_press_graph := ok_press_graph (P := PySem.Challenge.rw_offerstands_k48_whole_loans_pressed_in.prog) (w := w) (K := K) (mg := mg) (base := base) (C := cnO K) F_press_graph (He.glo_ok X G (c.fact 35 (f := .glo "press_graph") rfl)) T c_press_moves
  have c_chain_ends := ok_chain_ends (P := PySem.Challenge.rw_offerstands_k48_whole_loans_pressed_in.prog) (w := w) (K := K) (mg := mg) (base := base) (C := cnO K) F_chain_ends (He.glo_ok X G (c.fact 36 (f := .glo "chain_ends") rfl)) T c_press_check c_chain_settled_ends c_press_graph
  have c_side_is_offer := ok_side_is_offer (P := PySem.Challenge.rw_offerstands_k48_whole_loans_pressed_in.prog) (w := w) (K := K) (mg := mg) (base := base) (C := cnO K) F_side_is_offer (He.glo_ok X G (c.fact 37 (f := .glo "side_is_offer") rfl)) T c_is_whole
  have c_pressed_all := ok_pressed_all (P := PySem.Challenge.rw_offerstands_k48_whole_loans_pressed_in.prog) (w := w) (K := K) (mg := mg) (base := base) (C := cnO K) F_pressed_all (He.glo_ok X G (c.fact 38 (f := .glo "pressed_all") rfl)) T c_press_check c_press_behind c_side_is_offer c_wished_beside
  have c_parts_behind := ok_parts_behind (P := PySem.Challenge.rw_offerstands_k48_whole_loans_pressed_in.prog) (w := w) (K := K) (mg := mg) (base := base) (C := cnO K) F_parts_behind (He.glo_ok X G (c.fact 39 (f := .glo "parts_behind") rfl)) T c_press_check c_press_in_order c_press_graph
  have c_ring_ranks := ok_ring_ranks (P := PySem.Challenge.rw_offerstands_k48_whole_loans_pressed_in.prog) (w := w) (K := K) (mg := mg) (base := base) (C := cnO K) F_ring_ranks (He.glo_ok X G (c.fact 40 (f := .glo "ring_ranks") rfl)) T 
  have c_ring_walk := ok_ring_walk (P := PySem.Challenge.rw_offerstands_k48_whole_loans_pressed_in.prog) (w := w) (K := K) (mg := mg) (base := base) (C := cnO K) F_ring_walk (He.glo_ok X G (c.fact 41 (f := .glo "ring_walk") rfl)) T 
  have c_judge_ends := ok_judge_ends (P := PySem.Challenge.rw_offerstands_k48_whole_loans_pressed_in.prog) (w := w) (K := K) (mg := mg) (base := base) (C := cnO K) F_judge_ends (He.glo_ok X G (c.fact 42 (f := .glo "judge_ends") rfl)) T c_press_check c_press_graph c_ring_ranks c_ring_walk
  have c_longest_chain := ok_longest_chain (P := PySem.Challenge.rw_offerstands_k48_whole_loans_pressed_in.prog) (w := w) (K := K) (mg := mg) (base := base) (C := cnO K) F_longest_chain (He.glo_ok X G (c.fact 43 (f := .glo "longest_chain") rfl)) T c_press_check c_ring_ranks c_press_graph
  have c_judge_chain := ok_judge_chain (P := PySem.Challenge.rw_offerstands_k48_whole_loans_pressed_in.prog) (w := w) (K := K) (mg := mg) (base := base) (C := cnO K) F_judge_chain (He.glo_ok X G (c.fact 44 (f := .glo "judge_chain") rfl)) T c_first_chain c_press_graph
  have c_chain_end_of := ok_chain_end_of (P := PySem.Challenge.rw_offerstands_k48_whole_loans_pressed_in.prog) (w := w) (K := K) (mg := mg) (base := base) (C := cnO K) F_chain_end_of (He.glo_ok X G (c.fact 45 (f := .glo "chain_end_of") rfl)) T c_press_behind c_side_is_offer c_wished_beside
  have c_chain_holds := ok_chain_holds (P := PySem.Challenge.rw_offerstands_k48_whole_loans_pressed_in.prog) (w := w) (K := K) (mg := mg) (base := base) (C := cnO K) F_chain_holds (He.glo_ok X G (c.fact 46 (f := .glo "chain_holds") rfl)) T c_press_check c_chain_end_of c_wished_beside
  have c_does_go_round := ok_does_go_round (P := PySem.Challenge.rw_offerstands_k48_whole_loans_pressed_in.prog) (w := w) (K := K) (mg := mg) (base := base) (C := cnO K) F_does_go_round (He.glo_ok X G (c.fact 47 (f := .glo "does_go_round") rfl)) T c_longest_chain
  have c_chain_is_part := ok_chain_is_part (P := PySem.Challenge.rw_offerstands_k48_whole_loans_pressed_in.prog) (w := w) (K := K) (mg := mg) (base := base) (C := cnO K) F_chain_is_part (He.glo_ok X G (c.fact 48 (f := .glo "chain_is_part") rfl)) T LC c_is_set c_side_is_part c_agreed_by
  have c_ring_is_rank := ok_ring_is_rank (P := PySem.Challenge.rw_offerstands_k48_whole_loans_pressed_in.prog) (w := w) (K := K) (mg := mg) (base := base) (C := cnO K) F_ring_is_rank (He.glo_ok X G (c.fact 49 (f := .glo "ring_is_rank") rfl)) T c_is_whole c_chain_is_part
  have c_ring_ranks_hold := ok_ring_ranks_hold (P := PySem.Challenge.rw_offerstands_k48_whole_loans_pressed_in.prog) (w := w) (K := K) (mg := mg) (base := base) (C := cnO K) F_ring_ranks_hold (He.glo_ok X G (c.fact 50 (f := .glo "ring_ranks_hold") rfl)) T c_press_moves c_ring_is_rank
  have c_ends_hold := ok_ends_hold (P := PySem.Challenge.rw_offerstands_k48_whole_loans_pressed_in.prog) (w := w) (K := K) (mg := mg) (base := base) (C := cnO K) F_ends_hold (He.glo_ok X G (c.fact 51 (f := .glo "ends_hold") rfl)) T c_press_check c_chain_end_of c_ring_ranks_hold
  have c_is_settled := ok_is_settled (P := PySem.Challenge.rw_offerstands_k48_whole_loans_pressed_in.prog) (w := w) (K := K) (mg := mg) (base := base) (C := cnO K) F_is_settled (He.glo_ok X G (c.fact 52 (f := .glo "is_settled") rfl)) T c_side_check_part c_side_settled
  have c__law_part_right := ok__law_part_right (P := PySem.Challenge.rw_offerstands_k48_whole_loans_pressed_in.prog) (w := w) (K := K) (mg := mg) (base := base) (C := cnO K) F__law_part_right (He.glo_ok X G (c.fact 53 (f := .glo "_law_part_right") rfl)) T c_first_chain c_chain_ends c_pressed_all c_parts_behind c_judge_ends c_longest_chain c_judge_chain c_chain_holds c_does_go_round c_ends_hold c_is_agreed c_is_settled
  have c_change_check_settled := ok_change_check_settled (P := PySem.Challenge.rw_offerstands_k48_whole_loans_pressed_in.prog) (w := w) (K := K) (mg := mg) (base := base) (C := cnO K) F_change_check_settled (He.glo_ok X G (c.fact 54 (f := .glo "change_check_settled") rfl)) T c_is_settled
  have c_change_outcomes := ok_change_outcomes (P := PySem.Challenge.rw_offerstands_k48_whole_loans_pressed_in.prog) (w := w) (K := K) (mg := mg) (base := base) (C := cnO K) F_change_outcomes (He.glo_ok X G (c.fact 55 (f := .glo "change_outcomes") rfl)) T c_chain_settled_ends c_press_graph
  have c_side_set_without := ok_side_set_without (P := PySem.Challenge.rw_offerstands_k48_whole_loans_pressed_in.prog) (w := w) (K := K) (mg := mg) (base := base) (C := cnO K) F_side_set_without (He.glo_ok X G (c.fact 56 (f := .glo "side_set_without") rfl)) T 
  have c_without_offer := ok_without_offer (P := PySem.Challenge.rw_offerstands_k48_whole_loans_pressed_in.prog) (w := w) (K := K) (mg := mg) (base := base) (C := cnO K) F_without_offer (He.glo_ok X G (c.fact 57 (f := .glo "without_offer") rfl)) T c_change_check_settled c_change_outcomes c_side_is_offer c_side_set_without
  have c_change_check_new := ok_change_check_new (P := PySem.Challenge.rw_offerstands_k48_whole_loans_pressed_in.prog) (w := w) (K := K) (mg := mg) (base := base) (C := cnO K) F_change_check_new (He.glo_ok X G (c.fact 58 (f := .glo "change_check_new") rfl)) T LC c_side_is_offer
  have c_with_offer := ok_with_offer (P := PySem.Challenge.rw_offerstands_k48_whole_loans_pressed_in.prog) (w := w) (K := K) (mg := mg) (base := base) (C := cnO K) F_with_offer (He.glo_ok X G (c.fact 59 (f := .glo "with_offer") rfl)) T c_change_check_settled c_change_check_new c_change_outcomes c_side_set_with
  have c_is_touched := ok_is_touched (P := PySem.Challenge.rw_offerstands_k48_whole_loans_pressed_in.prog) (w := w) (K := K) (mg := mg) (base := base) (C := cnO K) F_is_touched (He.glo_ok X G (c.fact 60 (f := .glo "is_touched") rfl)) T c_change_check_settled c_change_check_new c_side_settled c_side_set_with
  have c__law_change_right := ok__law_change_right (P := PySem.Challenge.rw_offerstands_k48_whole_loans_pressed_in.prog) (w := w) (K := K) (mg := mg) (base := base) (C := cnO K) F__law_change_right (He.glo_ok X G (c.fact 61 (f := .glo "_law_change_right") rfl)) T c_without_offer c_with_offer c_is_touched c_is_settled c_settled_sets
  exact ok_law (P := PySem.Challenge.rw_offerstands_k48_whole_loans_pressed_in.prog) (w := w) (K := K) (mg := mg) (base := base) (C := cnO K) F_law T c__law_deck c_settled_sets c__law_orders c_by_lists c_does_shrink c_best_settled c__law_draw c_is_agreed c__law_part_right c__law_change_right
end Ost
open PySem PySem.W PySem.Calls PyProof.Rows
theorem PySem.Challenge.cw_offerstands_k48_whole_loans_pressed_in_holds : PySem.Challenge.rw_offerstands_k48_whole_loans_pressed_in.Holds := by
  w_on; o_law
  refine HandSHeadRun.head_any (r := OpenLaw.row PySem.Challenge.rw_offerstands_k48_whole_loans_pressed_in) (q := Ost.rowQ) (H := Ost.hkX) (ob := Ost.obX) (M := 12000) (loose := Ost.topNames) (d := HandSHeadRun.topDef (OpenLaw.row PySem.Challenge.rw_offerstands_k48_whole_loans_pressed_in).prog 87) (kwd := []) Ost.obX_eq
    (by kernel_rfl) (fun s => by kernel_rfl) Ost.runX (by kernel_rfl) (by kernel_rfl) (by kernel_rfl) (by rfl) (by first | assumption | decide +kernel) (by decide +kernel) ⟨rfl, rfl, rfl, rfl, rfl, by decide +kernel⟩ ?hw ?hc
  case hw => w_witness2
  case hc =>
    refine LamX.walk_ofTsE (l := PySem.Challenge.rw_offerstands_k48_whole_loans_pressed_in) (n := 63) (k := 10) (x := "_law_script") (CX := fun _ => L2.CX0) rfl (by decide) (by kernel_rfl) ⟨rfl, by decide, by decide⟩ ?F (fun _ _ _ _ _ z => z)
    intro w mg fa h Y G hmg0
    obtain ⟨K, KX, c⟩ := Y
    have hmg : mg ("law" : PySem.Str) = some (.ref fa) := by
      have e : (HandSHeadRun.topDef (OpenLaw.row PySem.Challenge.rw_offerstands_k48_whole_loans_pressed_in).prog 87).name = ("law" : PySem.Str) := by kernel_rfl
      rw [← e]
      exact hmg0
    exact ⟨K, KX, Ost.facts KX G hmg c⟩
