import PyProof.Rows.All
import Wide.All
import OpenK.AllK
import Wide.FinOn
import HandS.HeadEnd
import HandS.HeadHook2
import HandS.MakeKwOnly
import KE.KStateDown
import HandS.ForMost
import HandS.More
import HandS.Exc
import HandS.Defaults
import HandS.WordsExc
import HandS.Head0
import HandS.Head1
import HandS.Head2
import HandS.HeadHook1
import HandS.IsInst
import HandS.Deep
import HandS.SortInts
import HandS.TupAny
import KE.SortData
import KE.DataMinMax
import HandS.Style
import KE.GoesEnum
import HandS.NoneIn
import HandS.Conv
import KE.KxField
import HandS.SetFor
import HandS.Text
import HandS.FStr
import HandS.Ends
import HandS.Wide
import HandS.WideBits
import PySem.Challenge.RW_rankwright_k66_whole_good_splits
set_option Elab.async false
set_option linter.all false
set_option maxRecDepth 100000
/-! DLH: the head's facts, and what isinstance asks of one class. -/
namespace DL
open PySem PySem.Spec PyProof.Rows L2 He
def isMB (K : PySem.W.Frag) (C : Addr) : Bool := eqO (PySem.W.findIn K (.ref C) "__class__") (some (some (.builtin "object.__class__"))) && (eqO (PySem.W.specialIn K (.builtin "object.__class__") "__get__") (some (some (.builtin "getset_descriptor.__get__"))) &&
  (decide (PySem.W.takesIn K (.builtin "object.__class__") = some true) && decide (PySem.W.mroIn K C (.type "object") = some true)))
def obsI (fa : List Fa) (fn : List DefD) (c : Str) (K : PySem.W.Frag) : AlD × Bool := (obsD fa fn K, isMB K (ga K c))
def obsIG (n : Nat) (fa : List Fa) (fn : List DefD) (c : Str) (g : Addr → Option Obj) : AlD × Bool := obsI fa fn c (frG g (asD g n))
def SaysI (fa : List Fa) (fn : List DefD) (c : Str) (K : PySem.W.Frag) : Prop := obsI fa fn c K = (valD fn, true)
def hookI (n : Nat) (fa : List Fa) (fn : List DefD) (c : Str) : PySem.W.Hook where
  α := AlD × Bool
  obs := fun s => obsIG n fa fn c s.heap.get?
  val := fun _ => (valD fn, true)
  says := fun _ h => ∃ K : PySem.W.Frag, K.In h ∧ SaysI fa fn c K
  of := fun _ _ e => ⟨_, frG_in, e⟩
  keeps := fun _ _ _ ⟨K, hK, e⟩ k => ⟨K, PySem.W.Frag.In.keeps hK k, e⟩
theorem obsIG_eq {n : Nat} {fa : List Fa} {fn : List DefD} {c : Str} {g : Addr → Option Obj} {s : Shared} (h : ∀ a, g a = s.heap.get? a) : obsIG n fa fn c g = (hookI n fa fn c).obs s := by
  rw [show g = s.heap.get? from funext h]; rfl
theorem SaysI.d {fa : List Fa} {fn : List DefD} {c : Str} {K : PySem.W.Frag} (h : SaysI fa fn c K) : SaysD fa fn K := congrArg Prod.fst h
end DL

set_option maxHeartbeats 0
namespace HD
open PySem PySem.Spec PyProof.Rows L2
def top (i : Nat) : Stmt := PySem.Challenge.pw_rankwright_k66_whole_good_splits.main.body.getD i (.Pass ⟨0, 0, 0, 0⟩)
abbrev s_is_whole_in : Stmt := top 12
abbrev s_is_set_of_elements : Stmt := top 13
abbrev s_is_ground : Stmt := top 14
abbrev s_is_set_within : Stmt := top 15
abbrev s_are_sets_within : Stmt := top 16
abbrev s_ones_of : Stmt := top 17
abbrev s_mask_from : Stmt := top 18
abbrev s_set_from : Stmt := top 19
abbrev s_sets_from : Stmt := top 20
abbrev s_digits_in : Stmt := top 21
abbrev s_ranks_by_masks : Stmt := top 22
abbrev s_has_pair_fault : Stmt := top 23
abbrev s_bases_by_ranks : Stmt := top 24
abbrev s_checked_ranks : Stmt := top 44
abbrev s_matroid_by_ranks : Stmt := top 45
abbrev s_need_ground : Stmt := top 46
abbrev s_need_matroid : Stmt := top 47
abbrev s_pc_link : Stmt := top 49
abbrev s_pc_lowest : Stmt := top 50
abbrev s_pc_part_masks : Stmt := top 51
abbrev s_pc_need_whole : Stmt := top 52
abbrev s_pc_split_masks : Stmt := top 53
abbrev s_pc_cross : Stmt := top 54
abbrev s_pc_good_masks : Stmt := top 55
abbrev s_splits_of : Stmt := top 56
abbrev s_good_splits_of : Stmt := top 57
abbrev s_law_source : Stmt := top 59
abbrev s_law_next : Stmt := top 60
abbrev s_law_pick : Stmt := top 61
abbrev s_law_turned : Stmt := top 62
abbrev s_law_count : Stmt := top 63
abbrev s_law_ranks : Stmt := top 64
abbrev s_law_sized : Stmt := top 65
abbrev s_law_sparse : Stmt := top 66
abbrev s_law_forest_bases : Stmt := top 67
abbrev s_law_drawn_lines : Stmt := top 68
abbrev s_law_column_bases : Stmt := top 69
abbrev s_law_drawn_bases : Stmt := top 70
abbrev s_law_drawn_ground : Stmt := top 71
abbrev s_law_set : Stmt := top 72
abbrev s_law_given : Stmt := top 73
abbrev s_law_link : Stmt := top 74
abbrev s_law_part_masks : Stmt := top 75
abbrev s_law_split_masks : Stmt := top 76
abbrev s_law_good_masks : Stmt := top 77
abbrev s_law_whole_bases : Stmt := top 78
abbrev s_law_sorted_sets : Stmt := top 79
abbrev s_law : Stmt := top 80
def d_is_whole_in : He.DefD := ⟨("is_whole_in", none), "is_whole_in", "is_whole_in", defArgs s_is_whole_in, defBody s_is_whole_in, defScope s_is_whole_in, [], []⟩
def d_is_set_of_elements : He.DefD := ⟨("is_set_of_elements", none), "is_set_of_elements", "is_set_of_elements", defArgs s_is_set_of_elements, defBody s_is_set_of_elements, defScope s_is_set_of_elements, [], []⟩
def d_is_ground : He.DefD := ⟨("is_ground", none), "is_ground", "is_ground", defArgs s_is_ground, defBody s_is_ground, defScope s_is_ground, [], []⟩
def d_is_set_within : He.DefD := ⟨("is_set_within", none), "is_set_within", "is_set_within", defArgs s_is_set_within, defBody s_is_set_within, defScope s_is_set_within, [], []⟩
def d_are_sets_within : He.DefD := ⟨("are_sets_within", none), "are_sets_within", "are_sets_within", defArgs s_are_sets_within, defBody s_are_sets_within, defScope s_are_sets_within, [], []⟩
def d_ones_of : He.DefD := ⟨("ones_of", none), "ones_of", "ones_of", defArgs s_ones_of, defBody s_ones_of, defScope s_ones_of, [], []⟩
def d_mask_from : He.DefD := ⟨("mask_from", none), "mask_from", "mask_from", defArgs s_mask_from, defBody s_mask_from, defScope s_mask_from, [], []⟩
def d_set_from : He.DefD := ⟨("set_from", none), "set_from", "set_from", defArgs s_set_from, defBody s_set_from, defScope s_set_from, [], []⟩
def d_sets_from : He.DefD := ⟨("sets_from", none), "sets_from", "sets_from", defArgs s_sets_from, defBody s_sets_from, defScope s_sets_from, [], []⟩
def d_digits_in : He.DefD := ⟨("digits_in", none), "digits_in", "digits_in", defArgs s_digits_in, defBody s_digits_in, defScope s_digits_in, [], []⟩
def d_ranks_by_masks : He.DefD := ⟨("ranks_by_masks", none), "ranks_by_masks", "ranks_by_masks", defArgs s_ranks_by_masks, defBody s_ranks_by_masks, defScope s_ranks_by_masks, [], []⟩
def d_has_pair_fault : He.DefD := ⟨("has_pair_fault", none), "has_pair_fault", "has_pair_fault", defArgs s_has_pair_fault, defBody s_has_pair_fault, defScope s_has_pair_fault, [], []⟩
def d_bases_by_ranks : He.DefD := ⟨("bases_by_ranks", none), "bases_by_ranks", "bases_by_ranks", defArgs s_bases_by_ranks, defBody s_bases_by_ranks, defScope s_bases_by_ranks, [], []⟩
def d_checked_ranks : He.DefD := ⟨("checked_ranks", none), "checked_ranks", "checked_ranks", defArgs s_checked_ranks, defBody s_checked_ranks, defScope s_checked_ranks, [], []⟩
def d_matroid_by_ranks : He.DefD := ⟨("matroid_by_ranks", none), "matroid_by_ranks", "matroid_by_ranks", defArgs s_matroid_by_ranks, defBody s_matroid_by_ranks, defScope s_matroid_by_ranks, [], []⟩
def d_need_ground : He.DefD := ⟨("need_ground", none), "need_ground", "need_ground", defArgs s_need_ground, defBody s_need_ground, defScope s_need_ground, [], []⟩
def d_need_matroid : He.DefD := ⟨("need_matroid", none), "need_matroid", "need_matroid", defArgs s_need_matroid, defBody s_need_matroid, defScope s_need_matroid, [], []⟩
def d_pc_link : He.DefD := ⟨("pc_link", none), "pc_link", "pc_link", defArgs s_pc_link, defBody s_pc_link, defScope s_pc_link, [], []⟩
def d_pc_lowest : He.DefD := ⟨("pc_lowest", none), "pc_lowest", "pc_lowest", defArgs s_pc_lowest, defBody s_pc_lowest, defScope s_pc_lowest, [], []⟩
def d_pc_part_masks : He.DefD := ⟨("pc_part_masks", none), "pc_part_masks", "pc_part_masks", defArgs s_pc_part_masks, defBody s_pc_part_masks, defScope s_pc_part_masks, [], []⟩
def d_pc_need_whole : He.DefD := ⟨("pc_need_whole", none), "pc_need_whole", "pc_need_whole", defArgs s_pc_need_whole, defBody s_pc_need_whole, defScope s_pc_need_whole, [], []⟩
def d_pc_split_masks : He.DefD := ⟨("pc_split_masks", none), "pc_split_masks", "pc_split_masks", defArgs s_pc_split_masks, defBody s_pc_split_masks, defScope s_pc_split_masks, [], []⟩
def d_pc_cross : He.DefD := ⟨("pc_cross", none), "pc_cross", "pc_cross", defArgs s_pc_cross, defBody s_pc_cross, defScope s_pc_cross, [], []⟩
def d_pc_good_masks : He.DefD := ⟨("pc_good_masks", none), "pc_good_masks", "pc_good_masks", defArgs s_pc_good_masks, defBody s_pc_good_masks, defScope s_pc_good_masks, [], []⟩
def d_splits_of : He.DefD := ⟨("splits_of", none), "splits_of", "splits_of", defArgs s_splits_of, defBody s_splits_of, defScope s_splits_of, [], []⟩
def d_good_splits_of : He.DefD := ⟨("good_splits_of", none), "good_splits_of", "good_splits_of", defArgs s_good_splits_of, defBody s_good_splits_of, defScope s_good_splits_of, [], []⟩
def d_law_source : He.DefD := ⟨("_law_source", none), "_law_source", "_law_source", defArgs s_law_source, defBody s_law_source, defScope s_law_source, [], []⟩
def d_law_next : He.DefD := ⟨("_law_next", none), "_law_next", "_law_next", defArgs s_law_next, defBody s_law_next, defScope s_law_next, [], []⟩
def d_law_pick : He.DefD := ⟨("_law_pick", none), "_law_pick", "_law_pick", defArgs s_law_pick, defBody s_law_pick, defScope s_law_pick, [], []⟩
def d_law_turned : He.DefD := ⟨("_law_turned", none), "_law_turned", "_law_turned", defArgs s_law_turned, defBody s_law_turned, defScope s_law_turned, [], []⟩
def d_law_count : He.DefD := ⟨("_law_count", none), "_law_count", "_law_count", defArgs s_law_count, defBody s_law_count, defScope s_law_count, [], []⟩
def d_law_ranks : He.DefD := ⟨("_law_ranks", none), "_law_ranks", "_law_ranks", defArgs s_law_ranks, defBody s_law_ranks, defScope s_law_ranks, [], []⟩
def d_law_sized : He.DefD := ⟨("_law_sized", none), "_law_sized", "_law_sized", defArgs s_law_sized, defBody s_law_sized, defScope s_law_sized, [], []⟩
def d_law_sparse : He.DefD := ⟨("_law_sparse", none), "_law_sparse", "_law_sparse", defArgs s_law_sparse, defBody s_law_sparse, defScope s_law_sparse, [], []⟩
def d_law_forest_bases : He.DefD := ⟨("_law_forest_bases", none), "_law_forest_bases", "_law_forest_bases", defArgs s_law_forest_bases, defBody s_law_forest_bases, defScope s_law_forest_bases, [], []⟩
def d_law_drawn_lines : He.DefD := ⟨("_law_drawn_lines", none), "_law_drawn_lines", "_law_drawn_lines", defArgs s_law_drawn_lines, defBody s_law_drawn_lines, defScope s_law_drawn_lines, [], []⟩
def d_law_column_bases : He.DefD := ⟨("_law_column_bases", none), "_law_column_bases", "_law_column_bases", defArgs s_law_column_bases, defBody s_law_column_bases, defScope s_law_column_bases, [], []⟩
def d_law_drawn_bases : He.DefD := ⟨("_law_drawn_bases", none), "_law_drawn_bases", "_law_drawn_bases", defArgs s_law_drawn_bases, defBody s_law_drawn_bases, defScope s_law_drawn_bases, [], []⟩
def d_law_drawn_ground : He.DefD := ⟨("_law_drawn_ground", none), "_law_drawn_ground", "_law_drawn_ground", defArgs s_law_drawn_ground, defBody s_law_drawn_ground, defScope s_law_drawn_ground, [], []⟩
def d_law_set : He.DefD := ⟨("_law_set", none), "_law_set", "_law_set", defArgs s_law_set, defBody s_law_set, defScope s_law_set, [], []⟩
def d_law_given : He.DefD := ⟨("_law_given", none), "_law_given", "_law_given", defArgs s_law_given, defBody s_law_given, defScope s_law_given, [], []⟩
def d_law_link : He.DefD := ⟨("_law_link", none), "_law_link", "_law_link", defArgs s_law_link, defBody s_law_link, defScope s_law_link, [], []⟩
def d_law_part_masks : He.DefD := ⟨("_law_part_masks", none), "_law_part_masks", "_law_part_masks", defArgs s_law_part_masks, defBody s_law_part_masks, defScope s_law_part_masks, [], []⟩
def d_law_split_masks : He.DefD := ⟨("_law_split_masks", none), "_law_split_masks", "_law_split_masks", defArgs s_law_split_masks, defBody s_law_split_masks, defScope s_law_split_masks, [], []⟩
def d_law_good_masks : He.DefD := ⟨("_law_good_masks", none), "_law_good_masks", "_law_good_masks", defArgs s_law_good_masks, defBody s_law_good_masks, defScope s_law_good_masks, [], []⟩
def d_law_whole_bases : He.DefD := ⟨("_law_whole_bases", none), "_law_whole_bases", "_law_whole_bases", defArgs s_law_whole_bases, defBody s_law_whole_bases, defScope s_law_whole_bases, [], []⟩
def d_law_sorted_sets : He.DefD := ⟨("_law_sorted_sets", none), "_law_sorted_sets", "_law_sorted_sets", defArgs s_law_sorted_sets, defBody s_law_sorted_sets, defScope s_law_sorted_sets, [], []⟩
def d_law : He.DefD := ⟨("law", none), "law", "law", defArgs s_law, defBody s_law, defScope s_law, [], []⟩
def sInit : Stmt := inClass (top 39) 0
def d_M__init : He.DefD := ⟨("Matroid", some "__init__"), "__init__", "Matroid.__init__", defArgs sInit, defBody sInit, defScope sInit, [], [("known_ranks", .non)]⟩
def sDual : Stmt := inClass (top 39) 14
def d_M__dual : He.DefD := ⟨("Matroid", some "dual"), "dual", "Matroid.dual", defArgs sDual, defBody sDual, defScope sDual, [], []⟩
def fn : List He.DefD := [d_is_whole_in, d_is_set_of_elements, d_is_ground, d_is_set_within, d_are_sets_within, d_ones_of, d_mask_from, d_set_from, d_sets_from, d_digits_in, d_ranks_by_masks, d_has_pair_fault, d_bases_by_ranks, d_checked_ranks, d_matroid_by_ranks, d_need_ground, d_need_matroid, d_pc_link, d_pc_lowest, d_pc_part_masks, d_pc_need_whole, d_pc_split_masks, d_pc_cross, d_pc_good_masks, d_splits_of, d_good_splits_of, d_law_source, d_law_next, d_law_pick, d_law_turned, d_law_count, d_law_ranks, d_law_sized, d_law_sparse, d_law_forest_bases, d_law_drawn_lines, d_law_column_bases, d_law_drawn_bases, d_law_drawn_ground, d_law_set, d_law_given, d_law_link, d_law_part_masks, d_law_split_masks, d_law_good_masks, d_law_whole_bases, d_law_sorted_sets, d_law, d_M__init, d_M__dual]
def fa : List He.Fa := [.glo "is_whole_in", .glo "is_set_of_elements", .glo "is_ground", .glo "is_set_within", .glo "are_sets_within", .glo "ones_of", .glo "mask_from", .glo "set_from", .glo "sets_from", .glo "digits_in", .glo "ranks_by_masks", .glo "has_pair_fault", .glo "bases_by_ranks", .glo "checked_ranks", .glo "matroid_by_ranks", .glo "need_ground", .glo "need_matroid", .glo "pc_link", .glo "pc_lowest", .glo "pc_part_masks", .glo "pc_need_whole", .glo "pc_split_masks", .glo "pc_cross", .glo "pc_good_masks", .glo "splits_of", .glo "good_splits_of", .glo "_law_source", .glo "_law_next", .glo "_law_pick", .glo "_law_turned", .glo "_law_count", .glo "_law_ranks", .glo "_law_sized", .glo "_law_sparse", .glo "_law_forest_bases", .glo "_law_drawn_lines", .glo "_law_column_bases", .glo "_law_drawn_bases", .glo "_law_drawn_ground", .glo "_law_set", .glo "_law_given", .glo "_law_link", .glo "_law_part_masks", .glo "_law_split_masks", .glo "_law_good_masks", .glo "_law_whole_bases", .glo "_law_sorted_sets", .glo "law", .glo "Matroid", .free "all", .free "any", .free "bool", .free "enumerate", .free "int", .free "isinstance", .free "len", .free "list", .free "max", .free "min", .free "range", .free "repr", .free "sorted", .free "sum", .free "tuple", .int "MAX_ELEMENT" 199, .int "MAX_GROUND" 10, .cls "Matroid", .mkr "Matroid", .meth "Matroid" "dual", .noat "Matroid" "bases", .noat "Matroid" "ground", .noat "Matroid" "own_full", .noat "Matroid" "own_ranks"]
abbrev R : PySem.W.OpenRow := PySem.W.OpenLaw.row PySem.Challenge.rw_rankwright_k66_whole_good_splits
abbrev hk : PySem.W.Hook := DL.hookI 5 fa fn "Matroid"
def ob (s : PySem.W.SharedT) : He.AlD × Bool := DL.obsIG 5 fa fn "Matroid" (HandSHeadRun.getT s)
theorem ob_eq (s : PySem.W.SharedT) : ob s = hk.obs s.abs := DL.obsIG_eq (HandSHeadRun.getT_eq s)
def loose0 : List PySem.Str := ["_wall", "Invalid", "Refused", "BadGround", "BadSets", "BadTable", "BadMatroid", "Unlike", "MAX_ELEMENT", "MAX_GROUND", "is_whole_in", "is_set_of_elements", "is_ground", "is_set_within", "are_sets_within"]
def loose1 : List PySem.Str := ["ones_of", "mask_from", "set_from", "sets_from", "digits_in", "ranks_by_masks", "has_pair_fault", "bases_by_ranks", "all_sets_of", "first_of", "without_one", "with_one", "is_inside", "fault_of_bases", "exchange_fault"]
def loose2 : List PySem.Str := ["fault_of_circuits", "elimination_fault", "fault_of_ranks", "fault_of_flats", "fault_in", "Matroid", "is_circuit_mask", "circuit_masks", "closed_mask", "flat_masks", "checked_ranks", "matroid_by_ranks", "need_ground", "need_matroid", "pc_link"]
def loose3 : List PySem.Str := ["pc_lowest", "pc_part_masks", "pc_need_whole", "pc_split_masks", "pc_cross", "pc_good_masks", "splits_of", "good_splits_of", "_law_source", "_law_next", "_law_pick", "_law_turned", "_law_count", "_law_ranks", "_law_sized"]
def loose4 : List PySem.Str := ["_law_sparse", "_law_forest_bases", "_law_drawn_lines", "_law_column_bases", "_law_drawn_bases", "_law_drawn_ground", "_law_set", "_law_given", "_law_link", "_law_part_masks", "_law_split_masks", "_law_good_masks", "_law_whole_bases", "_law_sorted_sets"]
def loose : List PySem.Str := loose0 ++ loose1 ++ loose2 ++ loose3 ++ loose4
theorem run (w : World) : HandSHeadRun.RunEq R (PySem.W.view R.prog [80]) hk ob 20000 loose w := by
  intro os
  kernel_rfl
end HD

/-! DL: a data layer over HandS. Values as plain data, variables frozen or owned, the heap hidden. -/
namespace DL
open PySem PySem.Spec PyProof.Rows L2

inductive D where
  | non | bl (b : Bool) | int (i : Int) | str (x : Str)
  | tup (l : List D) | lst (l : List D) | seq (l : List D)
  | dk (ks : List Key) (l : List D) | dt (ks : List (List Key)) (l : List D)
  | ins (C : Addr) (fs : List Str) (l : List D)
  | raw (v : V)
  | dz (ks : List Key) (l : List D)

mutual
def Rep (K : PySem.W.Frag) (B : Hp) : D → V → Prop
  | .non, v => v = .non
  | .bl b, v => v = .bl b
  | .int i, v => v = .int i
  | .str x, v => v = .str x
  | .tup l, v => ∃ a vs, v = .ref a ∧ SqT K B a vs ∧ RepL K B l vs
  | .lst l, v => ∃ a vs, v = .ref a ∧ B a = some (.lst vs) ∧ RepL K B l vs
  | .seq l, v => ∃ a vs, v = .ref a ∧ SqL K B a vs ∧ RepL K B l vs
  | .dk ks l, v => ∃ a ws, v = .ref a ∧ Rd B a (.dK (ks.zip ws)) ∧ ks.length = ws.length ∧ RepL K B l ws
  | .dt ks l, v => ∃ a ws, v = .ref a ∧ Rd B a (.dT (ks.zip ws)) ∧ ks.length = ws.length ∧ RepL K B l ws
  | .ins C fs l, v => ∃ a dx ws, v = .ref a ∧ B a = some (.ins C dx (fs.zip ws)) ∧ fs.length = ws.length ∧ RepL K B l ws
  | .raw u, v => v = u
  | .dz ks l, v => ∃ a o ws, v = .ref a ∧ B a = some (.frz o (.dK (ks.zip ws))) ∧ ks.length = ws.length ∧ RepL K B l ws
def RepL (K : PySem.W.Frag) (B : Hp) : List D → List V → Prop
  | [], vs => vs = []
  | d :: ds, vs => ∃ v r, vs = v :: r ∧ Rep K B d v ∧ RepL K B ds r
end

theorem same_rd {B B' : Hp} {a : Addr} {u : HO} (e : Same B B') (h : Rd B a u) : Rd B' a u := by
  rcases h with h | ⟨o, h⟩
  · exact .inl (e _ _ h)
  · exact .inr ⟨o, e _ _ h⟩
theorem same_t {K : PySem.W.Frag} {B B' : Hp} {a : Addr} {xs : List V} (e : Same B B') (h : SqT K B a xs) : SqT K B' a xs := by
  rcases h with h | h
  · exact .inl (same_rd e h)
  · exact .inr h
mutual
theorem Rep.mono {K : PySem.W.Frag} {B B' : Hp} (e : Same B B') : ∀ {d : D} {v : V}, Rep K B d v → Rep K B' d v
  | .non, _, h => h
  | .bl _, _, h => h
  | .int _, _, h => h
  | .str _, _, h => h
  | .tup _, _, ⟨a, vs, h1, h2, h3⟩ => ⟨a, vs, h1, same_t e h2, RepL.mono e h3⟩
  | .lst _, _, ⟨a, vs, h1, h2, h3⟩ => ⟨a, vs, h1, e _ _ h2, RepL.mono e h3⟩
  | .seq _, _, ⟨a, vs, h1, h2, h3⟩ => ⟨a, vs, h1, Same.seq e h2, RepL.mono e h3⟩
  | .dk _ _, _, ⟨a, vs, h1, h2, h4, h3⟩ => ⟨a, vs, h1, same_rd e h2, h4, RepL.mono e h3⟩
  | .dt _ _, _, ⟨a, vs, h1, h2, h4, h3⟩ => ⟨a, vs, h1, same_rd e h2, h4, RepL.mono e h3⟩
  | .ins _ _ _, _, ⟨a, dx, vs, h1, h2, h4, h3⟩ => ⟨a, dx, vs, h1, e _ _ h2, h4, RepL.mono e h3⟩
  | .raw _, _, h => h
  | .dz _ _, _, ⟨a, o, vs, h1, h2, h4, h3⟩ => ⟨a, o, vs, h1, e _ _ h2, h4, RepL.mono e h3⟩
theorem RepL.mono {K : PySem.W.Frag} {B B' : Hp} (e : Same B B') : ∀ {ds : List D} {vs : List V}, RepL K B ds vs → RepL K B' ds vs
  | [], _, h => h
  | _ :: _, _, ⟨v, r, h1, h2, h3⟩ => ⟨v, r, h1, Rep.mono e h2, RepL.mono e h3⟩
end
theorem RepL.length {K : PySem.W.Frag} {B : Hp} : ∀ {ds : List D} {vs : List V}, RepL K B ds vs → vs.length = ds.length
  | [], _, h => by rw [show _ = [] from h]; rfl
  | _ :: _, _, ⟨v, r, h1, _, h3⟩ => by rw [h1, List.length_cons, List.length_cons, RepL.length h3]
theorem RepL.get {K : PySem.W.Frag} {B : Hp} : ∀ {ds : List D} {vs : List V} {i : Nat} {d : D}, RepL K B ds vs → ds[i]? = some d → ∃ v, vs[i]? = some v ∧ Rep K B d v
  | [], _, _, _, _, e => by simp at e
  | _ :: _, _, 0, _, ⟨v, r, h1, h2, h3⟩, e => by
    subst h1
    simp at e
    subst e
    exact ⟨v, rfl, h2⟩
  | _ :: _, _, i + 1, _, ⟨v, r, h1, h2, h3⟩, e => by
    subst h1
    obtain ⟨u, h4, h5⟩ := RepL.get (i := i) h3 (by simpa using e)
    exact ⟨u, by simpa using h4, h5⟩
theorem RepL.append {K : PySem.W.Frag} {B : Hp} : ∀ {ds es : List D} {vs ws : List V}, RepL K B ds vs → RepL K B es ws → RepL K B (ds ++ es) (vs ++ ws)
  | [], _, _, _, h, g => by
    rw [show _ = [] from h]
    exact g
  | _ :: _, _, _, _, ⟨v, r, h1, h2, h3⟩, g => by
    subst h1
    exact ⟨v, r ++ _, rfl, h2, RepL.append h3 g⟩
theorem RepL.set {K : PySem.W.Frag} {B : Hp} {d : D} {v : V} (hv : Rep K B d v) : ∀ {ds : List D} {vs : List V} (i : Nat), RepL K B ds vs → RepL K B (ds.set i d) (vs.set i v)
  | [], _, _, h => by
    rw [show _ = [] from h]
    exact rfl
  | _ :: _, _, 0, ⟨v, r, h1, h2, h3⟩ => by
    subst h1
    exact ⟨_, r, rfl, hv, h3⟩
  | _ :: _, _, i + 1, ⟨v, r, h1, h2, h3⟩ => by
    subst h1
    exact ⟨v, _, rfl, h2, RepL.set hv i h3⟩
theorem RepL.one {K : PySem.W.Frag} {B : Hp} {d : D} {v : V} (h : Rep K B d v) : RepL K B [d] [v] := ⟨v, [], rfl, h, rfl⟩
theorem RepL.cons {K : PySem.W.Frag} {B : Hp} {d : D} {v : V} {ds : List D} {vs : List V} (h : Rep K B d v) (g : RepL K B ds vs) : RepL K B (d :: ds) (v :: vs) := ⟨v, vs, rfl, h, g⟩
theorem RepL.take {K : PySem.W.Frag} {B : Hp} : ∀ {ds : List D} {vs : List V} (n : Nat), RepL K B ds vs → RepL K B (ds.take n) (vs.take n)
  | _, _, 0, _ => rfl
  | [], _, _ + 1, h => by
    rw [show _ = [] from h]
    exact rfl
  | _ :: _, _, n + 1, ⟨v, r, h1, h2, h3⟩ => by
    subst h1
    exact ⟨v, _, rfl, h2, RepL.take n h3⟩
theorem RepL.drop {K : PySem.W.Frag} {B : Hp} : ∀ {ds : List D} {vs : List V} (n : Nat), RepL K B ds vs → RepL K B (ds.drop n) (vs.drop n)
  | _, _, 0, h => h
  | [], _, _ + 1, h => by
    rw [show _ = [] from h]
    exact rfl
  | _ :: _, _, n + 1, ⟨v, r, h1, h2, h3⟩ => by
    subst h1
    exact RepL.drop n h3
theorem RepL.eraseIdx {K : PySem.W.Frag} {B : Hp} : ∀ {ds : List D} {vs : List V} (n : Nat), RepL K B ds vs → RepL K B (ds.eraseIdx n) (vs.eraseIdx n)
  | [], _, _, h => by
    rw [show _ = [] from h]
    exact rfl
  | _ :: _, _, 0, ⟨v, r, h1, h2, h3⟩ => by
    subst h1
    exact h3
  | _ :: _, _, n + 1, ⟨v, r, h1, h2, h3⟩ => by
    subst h1
    exact ⟨v, _, rfl, h2, RepL.eraseIdx n h3⟩
theorem RepL.ints {K : PySem.W.Frag} {B : Hp} : ∀ {l : List Int} {vs : List V}, RepL K B (l.map D.int) vs → vs = l.map V.int
  | [], _, h => h
  | x :: r, _, ⟨v, q, h1, h2, h3⟩ => by
    subst h1
    rw [RepL.ints h3, show v = V.int x from h2]
    rfl
theorem RepL.of_ints {K : PySem.W.Frag} {B : Hp} : ∀ (l : List Int), RepL K B (l.map D.int) (l.map V.int)
  | [] => rfl
  | x :: r => ⟨_, _, rfl, rfl, RepL.of_ints r⟩

/-! ### variables -/
inductive Var where
  | un | fz (d : D) | ow (d : D) | io (d : D)
abbrev VE := List Var
def isOw : Option Var → Bool
  | some (.ow _) => true
  | some (.io _) => true
  | _ => false
def isIo : Option Var → Bool
  | some (.io _) => true
  | _ => false

/-- the object at a is its owner's alone -/
def Own (K : PySem.W.Frag) (B H : Hp) : D → Addr → Prop
  | .lst l, a => B a = none ∧ ∃ vs, H a = some (.lst vs) ∧ RepL K B l vs
  | .dk ks l, a => B a = none ∧ ∃ ws, H a = some (.dK (ks.zip ws)) ∧ ks.length = ws.length ∧ RepL K B l ws
  | .dt ks l, a => B a = none ∧ ∃ ws, H a = some (.dT (ks.zip ws)) ∧ ks.length = ws.length ∧ RepL K B l ws
  | .ins C fs l, a => B a = none ∧ ∃ dx ws, H a = some (.ins C dx (fs.zip ws)) ∧ fs.length = ws.length ∧ RepL K B l ws
  | _, _ => False
theorem Own.none {K : PySem.W.Frag} {B H : Hp} : ∀ {d : D} {a : Addr}, Own K B H d a → B a = none
  | .lst _, _, h => h.1
  | .dk _ _, _, h => h.1
  | .dt _ _, _, h => h.1
  | .ins _ _ _, _, h => h.1
  | .non, _, h => h.elim
  | .bl _, _, h => h.elim
  | .int _, _, h => h.elim
  | .str _, _, h => h.elim
  | .tup _, _, h => h.elim
  | .seq _, _, h => h.elim
  | .raw _, _, h => h.elim
  | .dz _ _, _, h => h.elim
theorem Own.some {K : PySem.W.Frag} {B H : Hp} : ∀ {d : D} {a : Addr}, Own K B H d a → ∃ o, H a = some o
  | .lst _, _, ⟨_, _, h, _⟩ => ⟨_, h⟩
  | .dk _ _, _, ⟨_, _, h, _⟩ => ⟨_, h⟩
  | .dt _ _, _, ⟨_, _, h, _⟩ => ⟨_, h⟩
  | .ins _ _ _, _, ⟨_, _, _, h, _⟩ => ⟨_, h⟩
  | .non, _, h => h.elim
  | .bl _, _, h => h.elim
  | .int _, _, h => h.elim
  | .str _, _, h => h.elim
  | .tup _, _, h => h.elim
  | .seq _, _, h => h.elim
  | .raw _, _, h => h.elim
  | .dz _ _, _, h => h.elim
/-- kept: the base grows but not at a, the object stands -/
theorem Own.mono {K : PySem.W.Frag} {B B' H H' : Hp} (e : Same B B') : ∀ {d : D} {a : Addr}, B' a = Option.none → (∀ o, H a = Option.some o → H' a = Option.some o) → Own K B H d a → Own K B' H' d a
  | .lst _, _, n, k, ⟨_, vs, h, r⟩ => ⟨n, vs, k _ h, r.mono e⟩
  | .dk _ _, _, n, k, ⟨_, vs, h, l, r⟩ => ⟨n, vs, k _ h, l, r.mono e⟩
  | .dt _ _, _, n, k, ⟨_, vs, h, l, r⟩ => ⟨n, vs, k _ h, l, r.mono e⟩
  | .ins _ _ _, _, n, k, ⟨_, dx, vs, h, l, r⟩ => ⟨n, dx, vs, k _ h, l, r.mono e⟩
  | .non, _, _, _, h => h.elim
  | .bl _, _, _, _, h => h.elim
  | .int _, _, _, _, h => h.elim
  | .str _, _, _, _, h => h.elim
  | .tup _, _, _, _, h => h.elim
  | .seq _, _, _, _, h => h.elim
  | .raw _, _, _, _, h => h.elim
  | .dz _ _, _, _, _, h => h.elim
theorem same_upd {B : Hp} {a : Addr} {o : HO} (h : B a = none) : Same B (upd B a o) := fun b x e => by
  rw [upd_ne (ne_of_none e h)]
  exact e
/-- frozen: the owner gives it to the base -/
theorem Own.freeze {K : PySem.W.Frag} {B H : Hp} : ∀ {d : D} {a : Addr}, Own K B H d a → ∃ o, H a = Option.some o ∧ Rep K (upd B a o) d (.ref a)
  | .lst _, a, ⟨n, vs, h, r⟩ => ⟨_, h, a, vs, rfl, upd_same, r.mono (same_upd n)⟩
  | .dk _ _, a, ⟨n, vs, h, l, r⟩ => ⟨_, h, a, vs, rfl, .inl upd_same, l, r.mono (same_upd n)⟩
  | .dt _ _, a, ⟨n, vs, h, l, r⟩ => ⟨_, h, a, vs, rfl, .inl upd_same, l, r.mono (same_upd n)⟩
  | .ins _ _ _, a, ⟨n, dx, vs, h, l, r⟩ => ⟨_, h, a, dx, vs, rfl, upd_same, l, r.mono (same_upd n)⟩
  | .non, _, h => h.elim
  | .bl _, _, h => h.elim
  | .int _, _, h => h.elim
  | .str _, _, h => h.elim
  | .tup _, _, h => h.elim
  | .seq _, _, h => h.elim
  | .raw _, _, h => h.elim
  | .dz _ _, _, h => h.elim

def VarOk (K : PySem.W.Frag) (B H : Hp) : Var → Option (Option V) → Prop
  | .un, _ => True
  | .fz d, o => ∃ v, o = some (some v) ∧ Rep K B d v
  | .ow d, o => ∃ a, o = some (some (.ref a)) ∧ Own K B H d a
  | .io d, o => ∃ a, o = some (some (.ref a)) ∧ Own K B H d a

structure EnvOk (K : PySem.W.Frag) (B H : Hp) (σ : L2.St) (ρ : VE) : Prop where
  sub : Same B H
  len : ρ.length = σ.length
  var : ∀ (i : Nat) (r : Var), ρ[i]? = some r → VarOk K B H r σ[i]?
  sep : ∀ (i j : Nat) (a : Addr), i ≠ j → isOw ρ[i]? = true → isOw ρ[j]? = true → σ[i]? = some (some (.ref a)) → σ[j]? = some (some (.ref a)) → False
/-- the owned objects -/
def Rt (σ : L2.St) (ρ : VE) (a : Addr) : Prop := ∃ i : Nat, isOw ρ[i]? = true ∧ σ[i]? = some (some (.ref a))

structure Go (W : Addr → Prop) (B H : Hp) (W' : Addr → Prop) (B' H' : Hp) : Prop where
  bsub : Same B B'
  keep : ∀ a o, H a = some o → ¬ W a → H' a = some o
  there : ∀ a o, H a = some o → ∃ o', H' a = some o'
  new : ∀ a o, B' a = some o → B a = some o ∨ H a = none ∨ W a
  roots : ∀ a, W' a → W a ∨ H a = none
theorem Go.free {W W' : Addr → Prop} {B H B' H' : Hp} (g : Go W B H W' B' H') {a : Addr} (h : H' a = none) : H a = none := by
  cases e : H a with
  | none => rfl
  | some o =>
    obtain ⟨o', q⟩ := g.there a o e
    rw [h] at q
    cases q
theorem Go.refl (W : Addr → Prop) (B H : Hp) : Go W B H W B H := ⟨Same.refl B, fun _ _ h _ => h, fun _ o h => ⟨o, h⟩, fun _ _ h => .inl h, fun _ h => .inl h⟩
theorem Go.trans {W W1 W2 : Addr → Prop} {B H B1 H1 B2 H2 : Hp} (a : Go W B H W1 B1 H1) (b : Go W1 B1 H1 W2 B2 H2) : Go W B H W2 B2 H2 where
  bsub := a.bsub.trans b.bsub
  keep := fun x o h n => b.keep x o (a.keep x o h n) fun z => by
    rcases a.roots x z with z | z
    · exact n z
    · rw [h] at z; cases z
  there := fun x o h => by
    obtain ⟨o1, h1⟩ := a.there x o h
    exact b.there x o1 h1
  new := fun x o h => by
    rcases b.new x o h with h | h | h
    · exact a.new x o h
    · exact .inr (.inl (a.free h))
    · rcases a.roots x h with z | z
      · exact .inr (.inr z)
      · exact .inr (.inl z)
  roots := fun x h => by
    rcases b.roots x h with h | h
    · exact a.roots x h
    · exact .inr (a.free h)

/-- only new things -/
structure Grw (B H B' H' : Hp) : Prop where
  sub : Same B' H'
  bsub : Same B B'
  hsub : Same H H'
  new : ∀ a o, B' a = some o → B a = some o ∨ H a = none
theorem Grw.refl {B H : Hp} (h : Same B H) : Grw B H B H := ⟨h, Same.refl B, Same.refl H, fun _ _ e => .inl e⟩
theorem Grw.trans {B H B1 H1 B2 H2 : Hp} (a : Grw B H B1 H1) (b : Grw B1 H1 B2 H2) : Grw B H B2 H2 :=
  ⟨b.sub, a.bsub.trans b.bsub, a.hsub.trans b.hsub, fun x o h => by
    rcases b.new x o h with h | h
    · exact a.new x o h
    · exact .inr (a.hsub.free h)⟩
theorem Grw.go {B H B' H' : Hp} (g : Grw B H B' H') (W : Addr → Prop) : Go W B H W B' H' :=
  ⟨g.bsub, fun a o h _ => g.hsub a o h, fun a o h => ⟨o, g.hsub a o h⟩, fun a o h => (g.new a o h).elim .inl fun z => .inr (.inl z), fun _ h => .inl h⟩
/-- a new object, of the base or not -/
theorem Grw.push {B H : Hp} {p : Addr} {o : HO} (s : Same B H) (h : H p = none) : Grw B H (upd B p o) (upd H p o) := by
  have hb : B p = none := s.free h
  refine ⟨fun b x e => ?_, same_upd hb, same_upd h, fun b x e => ?_⟩
  · by_cases hp : b = p
    · subst hp; rw [upd_same] at e ⊢; exact e
    · rw [upd_ne hp] at e ⊢; exact s _ _ e
  · by_cases hp : b = p
    · subst hp; exact .inr h
    · rw [upd_ne hp] at e; exact .inl e
theorem Grw.own {B H : Hp} {p : Addr} {o : HO} (s : Same B H) (h : H p = none) : Grw B H B (upd H p o) :=
  ⟨fun b x e => by rw [upd_ne (ne_of_none (s _ _ e) h)]; exact s _ _ e, Same.refl B, same_upd h, fun _ _ e => .inl e⟩
section
variable {K : PySem.W.Frag} {B H B' H' : Hp} {σ : L2.St} {ρ : VE}
theorem Grw.none (g : Grw B H B' H') {a : Addr} {o : HO} (h : B a = none) (h2 : H a = some o) : B' a = none := by
  cases e : B' a with
  | none => rfl
  | some u =>
    rcases g.new a u e with z | z
    · rw [h] at z; cases z
    · rw [h2] at z; cases z
theorem VarOk.grw (g : Grw B H B' H') : ∀ {r : Var} {o : Option (Option V)}, VarOk K B H r o → VarOk K B' H' r o
  | .un, _, _ => trivial
  | .fz _, _, ⟨v, e, r⟩ => ⟨v, e, r.mono g.bsub⟩
  | .ow _, _, ⟨a, e, r⟩ => ⟨a, e, let ⟨_, q⟩ := r.some; r.mono g.bsub (g.none r.none q) fun o h => g.hsub _ _ h⟩
  | .io _, _, ⟨a, e, r⟩ => ⟨a, e, let ⟨_, q⟩ := r.some; r.mono g.bsub (g.none r.none q) fun o h => g.hsub _ _ h⟩
theorem EnvOk.grw (I : EnvOk K B H σ ρ) (g : Grw B H B' H') : EnvOk K B' H' σ ρ := ⟨g.sub, I.len, fun i r e => (I.var i r e).grw g, I.sep⟩
end

/-! ### results -/
/-- what an expression gives -/
def ResOk (K : PySem.W.Frag) (H0 : Hp) (W' : Addr → Prop) (B' H' : Hp) : Var → V → Prop
  | .fz d, v => Rep K B' d v
  | .ow d, v => ∃ a, v = .ref a ∧ Own K B' H' d a ∧ ¬ W' a ∧ H0 a = none
  | _, _ => False

/-! ### what an expression does, by itself -/
def wE (X : Cx) (e : Expr) : TE := fun σ H Q => ∀ (pins : List (Addr × Obj)) (s : Shared), Inv X pins σ H s → wpAny (model X.prog X.w) X.A (eval e X.env) (EP X pins σ Q) X.xe s
def wT (X : Cx) (e : Expr) : TT := fun σ H Q => ∀ (pins : List (Addr × Obj)) (s : Shared), Inv X pins σ H s → wpAny (model X.prog X.w) X.A (isTrue e X.env (eval e X.env)) (TP X pins σ Q) X.xe s
def wA (X : Cx) (es : List Expr) : TA := fun σ H Q => ∀ (pos : Pos) (pins : List (Addr × Obj)) (s : Shared), Inv X pins σ H s → wpAny (model X.prog X.w) X.A (spliced (backTo pos (starEach es X.env))) (AP X pins σ Q) X.xe s
def wS (X : Cx) (st : Stmt) : TS := fun D σ H => ∀ (pins : List (Addr × Obj)) (s : Shared), Inv X pins σ H s → wpAny (model X.prog X.w) X.A (exec st X.env) (SP X pins D) X.xe s
def wSs (X : Cx) (st : List Stmt) : TS := fun D σ H => ∀ (pins : List (Addr × Obj)) (s : Shared), Inv X pins σ H s → wpAny (model X.prog X.w) X.A (execs st X.env) (SP X pins D) X.xe s
section
variable {X : Cx} {e : Expr} {es : List Expr} {st : Stmt} {sts : List Stmt} {σ : L2.St} {H : Hp}
theorem pe_w : PE X e (wE X e) := ⟨fun pins s _ _ _ I h => h pins s I⟩
theorem pt_w : PT X e (wT X e) := ⟨fun pins s _ _ _ I h => h pins s I⟩
theorem pa_w : PA X es (wA X es) := ⟨fun pos pins s _ _ _ I h => h pos pins s I⟩
theorem ps_w : PS X st (wS X st) := ⟨fun pins s _ _ _ I h => h pins s I⟩
theorem pss_w : PSs X sts (wSs X sts) := ⟨fun pins s _ _ _ I h => h pins s I⟩
theorem wE.of {t : TE} {Q : VK} (h : PE X e t) (q : t σ H Q) : wE X e σ H Q := fun pins s I => h.run pins s σ H Q I q
theorem wT.of {t : TT} {Q : Bool → Hp → Prop} (h : PT X e t) (q : t σ H Q) : wT X e σ H Q := fun pins s I => h.run pins s σ H Q I q
theorem wA.of {t : TA} {Q : List V → Hp → Prop} (h : PA X es t) (q : t σ H Q) : wA X es σ H Q := fun pos pins s I => h.run pos pins s σ H Q I q
theorem wS.of {t : TS} {D : Ends} (h : PS X st t) (q : t D σ H) : wS X st D σ H := fun pins s I => h.run pins s σ H D I q
theorem wSs.of {t : TS} {D : Ends} (h : PSs X sts t) (q : t D σ H) : wSs X sts D σ H := fun pins s I => h.run pins s σ H D I q
end

/-- the expression e, in the variables ρ, gives r and leaves ρ' -/
structure EvD (X : Cx) (e : Expr) (ρ : VE) (r : Var) (ρ' : VE) : Prop where
  run : ∀ (σ : L2.St) (B H : Hp) (Q : VK), EnvOk X.K B H σ ρ →
  (∀ v B' H', EnvOk X.K B' H' σ ρ' → Go (Rt σ ρ) B H (Rt σ ρ') B' H' → ResOk X.K H (Rt σ ρ') B' H' r v → Q v H') → wE X e σ H Q
instance {X : Cx} {e : Expr} {ρ : VE} {r : Var} {ρ' : VE} : CoeFun (EvD X e ρ r ρ') fun _ => ∀ (σ : L2.St) (B H : Hp) (Q : VK), EnvOk X.K B H σ ρ →
  (∀ v B' H', EnvOk X.K B' H' σ ρ' → Go (Rt σ ρ) B H (Rt σ ρ') B' H' → ResOk X.K H (Rt σ ρ') B' H' r v → Q v H') → wE X e σ H Q := ⟨EvD.run⟩
structure EvT (X : Cx) (e : Expr) (ρ : VE) (b : Bool) (ρ' : VE) : Prop where
  run : ∀ (σ : L2.St) (B H : Hp) (Q : Bool → Hp → Prop), EnvOk X.K B H σ ρ →
  (∀ B' H', EnvOk X.K B' H' σ ρ' → Go (Rt σ ρ) B H (Rt σ ρ') B' H' → Q b H') → wT X e σ H Q
instance {X : Cx} {e : Expr} {ρ : VE} {b : Bool} {ρ' : VE} : CoeFun (EvT X e ρ b ρ') fun _ => ∀ (σ : L2.St) (B H : Hp) (Q : Bool → Hp → Prop), EnvOk X.K B H σ ρ →
  (∀ B' H', EnvOk X.K B' H' σ ρ' → Go (Rt σ ρ) B H (Rt σ ρ') B' H' → Q b H') → wT X e σ H Q := ⟨EvT.run⟩
/-- arguments: all frozen -/
structure EvA (X : Cx) (es : List Expr) (ρ : VE) (ds : List D) (ρ' : VE) : Prop where
  run : ∀ (σ : L2.St) (B H : Hp) (Q : List V → Hp → Prop), EnvOk X.K B H σ ρ →
  (∀ vs B' H', EnvOk X.K B' H' σ ρ' → Go (Rt σ ρ) B H (Rt σ ρ') B' H' → RepL X.K B' ds vs → Q vs H') → wA X es σ H Q
instance {X : Cx} {es : List Expr} {ρ : VE} {ds : List D} {ρ' : VE} : CoeFun (EvA X es ρ ds ρ') fun _ => ∀ (σ : L2.St) (B H : Hp) (Q : List V → Hp → Prop), EnvOk X.K B H σ ρ →
  (∀ vs B' H', EnvOk X.K B' H' σ ρ' → Go (Rt σ ρ) B H (Rt σ ρ') B' H' → RepL X.K B' ds vs → Q vs H') → wA X es σ H Q := ⟨EvA.run⟩

section
variable {X : Cx} {e : Expr} {es : List Expr} {ρ ρ1 ρ2 ρ' : VE} {d x y : D} {r : Var}

/-! ### names, constants -/
theorem ev_var {i : Nat} {nm : Str} {pos : Pos} (hr : ρ[i]? = some (.fz d)) (hN : X.N[i]? = some nm) (hv : Vis X.env.scope nm := by first | exact Or.inl rfl | exact Or.inr (Or.inl rfl) | exact Or.inr (Or.inr rfl)) (hd : (nm == ("__debug__" : Str)) = false := by decide) (hcd : (nm == ("__classdict__" : Str)) = false := by decide) :
    EvD X (.Name nm pos) ρ (.fz d) ρ := .mk fun σ B H Q I q => by
  obtain ⟨v, h1, h2⟩ := I.var i _ hr
  exact wE.of (pe_var hN hv hd hcd) ⟨v, h1, q v B H I (Go.refl _ _ _) h2⟩
theorem ev_c {v : V} (h : PE X e (tC v)) (hd : ∀ B, Rep X.K B d v) : EvD X e ρ (.fz d) ρ := .mk fun σ B H Q I q => wE.of h (q v B H I (Go.refl _ _ _) (hd B))
theorem ev_int {i : Int} {j pos} : EvD X (.Constant (.int i) j pos) ρ (.fz (.int i)) ρ := ev_c pe_int fun _ => rfl
theorem ev_bl {b : Bool} {j pos} : EvD X (.Constant (.bool b) j pos) ρ (.fz (.bl b)) ρ := ev_c pe_bl fun _ => rfl
theorem ev_non {j pos} : EvD X (.Constant .none j pos) ρ (.fz .non) ρ := ev_c pe_non fun _ => rfl
theorem ev_str {z : Str} {j pos} : EvD X (.Constant (.str z) j pos) ρ (.fz (.str z)) ρ := ev_c pe_str fun _ => rfl

/-- a new object is frozen -/
theorem upd_eq {H : Hp} {a : Addr} {o : HO} (h : H a = some o) : upd H a o = H := by
  funext b
  unfold upd
  split
  · rename_i e; rw [e, h]
  · rfl
theorem freeze_grw {B H : Hp} {a : Addr} {o : HO} (s : Same B H) (hb : B a = none) (h : H a = some o) : Same (upd B a o) H := fun b x e => by
  by_cases hp : b = a
  · subst hp; rw [upd_same] at e; cases e; exact h
  · rw [upd_ne hp] at e; exact s _ _ e
/-- an unowned object of the heap joins the base -/
theorem EnvOk.join {K : PySem.W.Frag} {B H : Hp} {σ : L2.St} {a : Addr} {o : HO} (I : EnvOk K B H σ ρ) (hb : B a = none) (h : H a = some o) (hn : ¬ Rt σ ρ a) : EnvOk K (upd B a o) H σ ρ := by
  have s := same_upd (B := B) (o := o) hb
  refine ⟨freeze_grw I.sub hb h, I.len, fun i r e => ?_, I.sep⟩
  have q := I.var i r e
  cases r with
  | un => trivial
  | fz d => obtain ⟨v, e1, r⟩ := q; exact ⟨v, e1, r.mono s⟩
  | ow d =>
    obtain ⟨b, e1, r⟩ := q
    have hne : b ≠ a := fun z => hn ⟨i, by rw [e]; rfl, by rw [← z]; exact e1⟩
    exact ⟨b, e1, r.mono s (by rw [upd_ne hne]; exact r.none) fun _ z => z⟩
  | io d =>
    obtain ⟨b, e1, r⟩ := q
    have hne : b ≠ a := fun z => hn ⟨i, by rw [e]; rfl, by rw [← z]; exact e1⟩
    exact ⟨b, e1, r.mono s (by rw [upd_ne hne]; exact r.none) fun _ z => z⟩
theorem ev_fr (h : EvD X e ρ (.ow d) ρ') : EvD X e ρ (.fz d) ρ' := .mk fun σ B H Q I q => h σ B H Q I fun v B' H' I' g r => by
  obtain ⟨a, rfl, own, nw, hn⟩ := r
  obtain ⟨o, ho, rep⟩ := own.freeze
  have gB : Same B' (upd B' a o) := same_upd own.none
  refine q (.ref a) (upd B' a o) H' (I'.join own.none ho nw) ⟨g.bsub.trans gB, g.keep, g.there, fun b x e => ?_, g.roots⟩ rep
  by_cases hp : b = a
  · subst hp; exact .inr (.inl hn)
  · rw [upd_ne hp] at e; exact g.new b x e
end
/-! ### arguments as they are written -/
def nStar : Expr → Bool
  | .Starred _ _ => false
  | _ => true
theorem star_cons {e : Expr} {es : List Expr} {env : Env} (h : nStar e = true) : starEach (e :: es) env = (false, eval e env) :: starEach es env := by
  cases e <;> first | rfl | cases h
theorem star_one {e : Expr} {env : Env} (h : nStar e = true) : starEach [e] env = [(false, eval e env)] := star_cons h
theorem star_two {e e2 : Expr} {env : Env} (h : nStar e = true) (h2 : nStar e2 = true) : starEach [e, e2] env = [(false, eval e env), (false, eval e2 env)] := by rw [star_cons h, star_cons h2]; rfl
theorem plain_star {pos : Pos} {env : Env} : ∀ {es : List Expr}, es.all nStar = true → (backTo pos (starEach es env)).any (·.1) = false
  | [], _ => rfl
  | e :: es, h => by
    rw [List.all_cons, Bool.and_eq_true] at h
    rw [star_cons h.1]
    show (false || (backTo pos (starEach es env)).any (·.1)) = false
    rw [plain_star h.2]
    rfl
end DL

/-! DL2: operations on values. -/
namespace DL
open PySem PySem.Spec PyProof.Rows L2

/-! ### data without dicts and instances, as the library's data -/
mutual
def D.py : D → PyData
  | .non => .none
  | .bl b => .bool b
  | .int i => .int i
  | .str x => .str x
  | .tup l => .tuple (D.pyL l)
  | .lst l => .list (D.pyL l)
  | .seq l => .list (D.pyL l)
  | .dk _ _ => .none
  | .dt _ _ => .none
  | .ins _ _ _ => .none
  | .raw _ => .none
  | .dz _ _ => .none
def D.pyL : List D → List PyData
  | [] => []
  | d :: ds => d.py :: D.pyL ds
end
theorem D.pyL_map : ∀ l : List D, D.pyL l = l.map D.py
  | [] => rfl
  | d :: ds => by rw [D.pyL, D.pyL_map ds]; rfl
mutual
def D.pure : D → Bool
  | .non => true
  | .bl _ => true
  | .int _ => true
  | .str x => (PyData.str x).canLay0
  | .tup l => D.pureL l
  | .lst l => D.pureL l
  | .seq l => D.pureL l
  | _ => false
def D.pureL : List D → Bool
  | [] => true
  | d :: ds => d.pure && D.pureL ds
end
theorem D.pureL_all : ∀ l : List D, D.pureL l = l.all D.pure
  | [] => rfl
  | d :: ds => by rw [D.pureL, D.pureL_all ds]; rfl
/-! deeply immutable: no list, no dict, no instance -/
mutual
def D.imm : D → Bool
  | .non => true
  | .bl _ => true
  | .int _ => true
  | .str _ => true
  | .tup l => D.immL l
  | .raw _ => true
  | _ => false
def D.immL : List D → Bool
  | [] => true
  | d :: ds => d.imm && D.immL ds
end
theorem D.immL_all : ∀ l : List D, D.immL l = l.all D.imm
  | [] => rfl
  | d :: ds => by rw [D.immL, D.immL_all ds]; rfl

mutual
theorem Rep.dp {K : PySem.W.Frag} {B : Hp} : ∀ {d : D} {v : V}, d.pure = true → Rep K B d v → Dp K B v d.py
  | .non, _, _, h => by rw [show _ = V.non from h]; exact .non
  | .bl b, _, _, h => by rw [show _ = V.bl b from h]; exact .bl b
  | .int i, _, _, h => by rw [show _ = V.int i from h]; exact .int i
  | .str x, _, _, h => by rw [show _ = V.str x from h]; exact .str x
  | .tup l, _, p, ⟨a, vs, h1, h2, h3⟩ => by
    subst h1
    exact .tup h2 (RepL.dp (show D.pureL l = true from p) h3)
  | .lst l, _, p, ⟨a, vs, h1, h2, h3⟩ => by
    subst h1
    exact .lst (.inl (.inl h2)) (RepL.dp (show D.pureL l = true from p) h3)
  | .seq l, _, p, ⟨a, vs, h1, h2, h3⟩ => by
    subst h1
    exact .lst h2 (RepL.dp (show D.pureL l = true from p) h3)
  | .dk _ _, _, p, _ => by cases p
  | .dt _ _, _, p, _ => by cases p
  | .ins _ _ _, _, p, _ => by cases p
  | .raw _, _, p, _ => by cases p
  | .dz _ _, _, p, _ => by cases p
theorem RepL.dp {K : PySem.W.Frag} {B : Hp} : ∀ {ds : List D} {vs : List V}, D.pureL ds = true → RepL K B ds vs → DpAll K B vs (D.pyL ds)
  | [], _, _, h => by rw [show _ = ([] : List V) from h]; exact .nil
  | d :: ds, _, p, ⟨v, r, h1, h2, h3⟩ => by
    subst h1
    have p' : (d.pure && D.pureL ds) = true := p
    rw [Bool.and_eq_true] at p'
    exact .cons (Rep.dp p'.1 h2) (RepL.dp p'.2 h3)
end
mutual
theorem canLay_py : ∀ {d : D}, d.pure = true → d.py.canLay0 = true
  | .non, _ => rfl
  | .bl _, _ => rfl
  | .int _, _ => rfl
  | .str x, p => p
  | .tup l, p => canLayL_py (l := l) p
  | .lst l, p => canLayL_py (l := l) p
  | .seq l, p => canLayL_py (l := l) p
  | .dk _ _, p => by cases p
  | .dt _ _, p => by cases p
  | .ins _ _ _, p => by cases p
  | .raw _, p => by cases p
  | .dz _ _, p => by cases p
theorem canLayL_py : ∀ {l : List D}, D.pureL l = true → PyData.canLayAll0 (D.pyL l) = true
  | [], _ => rfl
  | d :: ds, p => by
    have p' : (d.pure && D.pureL ds) = true := p
    rw [Bool.and_eq_true] at p'
    show (d.py.canLay0 && PyData.canLayAll0 (D.pyL ds)) = true
    rw [canLay_py p'.1, canLayL_py p'.2]
    rfl
end

/-! ### operations by values -/
def ResV (K : PySem.W.Frag) (H0 B' H' : Hp) : Var → V → Prop
  | .fz d, u => Rep K B' d u
  | .ow d, u => ∃ a, u = .ref a ∧ Own K B' H' d a ∧ H0 a = none
  | _, _ => False
def OpD (X : Cx) (r : R2) (x y : D) (res : Var) : Prop := ∀ (v w : V) (B H : Hp) (Q : VK), Same B H → Rep X.K B x v → Rep X.K B y w → (∀ u B' H', Grw B H B' H' → ResV X.K H B' H' res u → Q u H') → r v w H Q
def UnD (X : Cx) (r : V → Hp → VK → Prop) (x : D) (res : Var) : Prop := ∀ (v : V) (B H : Hp) (Q : VK), Same B H → Rep X.K B x v → (∀ u B' H', Grw B H B' H' → ResV X.K H B' H' res u → Q u H') → r v H Q
def CallD (X : Cx) (r : List V → Hp → VK → Prop) (xs : List D) (res : Var) : Prop := ∀ (vs : List V) (B H : Hp) (Q : VK), Same B H → RepL X.K B xs vs → (∀ u B' H', Grw B H B' H' → ResV X.K H B' H' res u → Q u H') → r vs H Q

section
variable {X : Cx} {e a b : Expr} {es : List Expr} {ρ ρ1 ρ2 ρ' : VE} {d x y z : D} {r : R2} {res : Var} {pos : Pos}
theorem EnvOk.rt {K : PySem.W.Frag} {B H : Hp} {σ : L2.St} (I : EnvOk K B H σ ρ) {a : Addr} (h : Rt σ ρ a) : ∃ o, H a = some o := by
  obtain ⟨i, h1, h2⟩ := h
  cases e : ρ[i]? with
  | none => rw [e] at h1; cases h1
  | some r =>
    have q := I.var i r e
    rw [e] at h1
    cases r with
    | un => cases h1
    | fz d => cases h1
    | ow d =>
      obtain ⟨b, e1, o⟩ := q
      rw [h2] at e1
      cases e1
      exact o.some
    | io d =>
      obtain ⟨b, e1, o⟩ := q
      rw [h2] at e1
      cases e1
      exact o.some
/-- the end of an operation -/
theorem fin_op {K : PySem.W.Frag} {σ : L2.St} {B0 H0 B H B' H' : Hp} {W0 : Addr → Prop} {u : V} (I : EnvOk K B H σ ρ2) (g0 : Go W0 B0 H0 (Rt σ ρ2) B H) (g : Grw B H B' H') (h : ResV K H B' H' res u) :
    EnvOk K B' H' σ ρ2 ∧ Go W0 B0 H0 (Rt σ ρ2) B' H' ∧ ResOk K H0 (Rt σ ρ2) B' H' res u := by
  refine ⟨I.grw g, g0.trans (g.go _), ?_⟩
  cases res with
  | un => exact h
  | fz d => exact h
  | io d => exact h
  | ow d =>
    obtain ⟨a, e, o, n⟩ := h
    refine ⟨a, e, o, fun z => ?_, g0.free n⟩
    obtain ⟨o, q⟩ := I.rt z
    rw [n] at q
    cases q
theorem ev_bin (W : ∀ {ta tb : TE}, PE X a ta → PE X b tb → PE X e (tOp r ta tb)) (ha : EvD X a ρ (.fz x) ρ1) (hb : EvD X b ρ1 (.fz y) ρ2) (hr : OpD X r x y res) : EvD X e ρ res ρ2 := .mk fun σ B H Q I q => by
  refine wE.of (W pe_w pe_w) (ha σ B H _ I fun v B1 H1 I1 g1 r1 => hb σ B1 H1 _ I1 fun w B2 H2 I2 g2 r2 => ?_)
  refine hr v w B2 H2 Q I2.sub (Rep.mono g2.bsub r1) r2 fun u B' H' g h => ?_
  obtain ⟨i1, i2, i3⟩ := fin_op I2 (g1.trans g2) g h
  exact q u B' H' i1 i2 i3
theorem ev_un1 {r : V → Hp → VK → Prop} (W : ∀ {ta : TE}, PE X a ta → PE X e (tUn r ta)) (ha : EvD X a ρ (.fz x) ρ1) (hr : UnD X r x res) : EvD X e ρ res ρ1 := .mk fun σ B H Q I q => by
  refine wE.of (W pe_w) (ha σ B H _ I fun v B1 H1 I1 g1 r1 => ?_)
  refine hr v B1 H1 Q I1.sub r1 fun u B' H' g h => ?_
  obtain ⟨i1, i2, i3⟩ := fin_op I1 g1 g h
  exact q u B' H' i1 i2 i3
/-- arguments -/
theorem ea_nil : EvA X [] ρ [] ρ := .mk fun σ B H Q I q => wA.of pa_nil (q [] B H I (Go.refl _ _ _) rfl)
theorem ea_cons (ha : EvD X e ρ (.fz x) ρ1) (hr : EvA X es ρ1 xs ρ2) (hs : starEach (e :: es) X.env = (false, eval e X.env) :: starEach es X.env := by first | exact star_cons rfl | rfl) : EvA X (e :: es) ρ (x :: xs) ρ2 := .mk fun σ B H Q I q => by
  refine wA.of (pa_cons pe_w pa_w hs) (ha σ B H _ I fun v B1 H1 I1 g1 r1 => hr σ B1 H1 _ I1 fun vs B2 H2 I2 g2 r2 => ?_)
  exact q (v :: vs) B2 H2 I2 (g1.trans g2) ⟨v, vs, rfl, Rep.mono g2.bsub r1, r2⟩
theorem ev_call1 {r : List V → Hp → VK → Prop} {xs : List D} (W : ∀ {t : TA}, PA X es t → PE X e (tCB r t)) (ha : EvA X es ρ xs ρ1) (hr : CallD X r xs res) : EvD X e ρ res ρ1 := .mk fun σ B H Q I q => by
  refine wE.of (W pa_w) (ha σ B H _ I fun vs B1 H1 I1 g1 r1 => ?_)
  refine hr vs B1 H1 Q I1.sub r1 fun u B' H' g h => ?_
  obtain ⟨i1, i2, i3⟩ := fin_op I1 g1 g h
  exact q u B' H' i1 i2 i3

/-! ### ints -/
theorem od_I0 {g : Int → Int → V} {gd : Int → Int → D} {i j : Int} (hg : ∀ B, Rep X.K B (gd i j) (g i j)) : OpD X (rI0 g) (.int i) (.int j) (.fz (gd i j)) := fun v w B H Q s hv hw q => ⟨i, j, hv, hw, q _ B H (Grw.refl s) (hg B)⟩
theorem od_I {C : Int → Int → Prop} {g : Int → Int → V} {gd : Int → Int → D} {i j : Int} (hc : C i j) (hg : ∀ B, Rep X.K B (gd i j) (g i j)) : OpD X (rI C g) (.int i) (.int j) (.fz (gd i j)) := fun v w B H Q s hv hw q => ⟨i, j, hv, hw, hc, q _ B H (Grw.refl s) (hg B)⟩
variable {i j : Int}
theorem ev_add (ha : EvD X a ρ (.fz (.int i)) ρ1) (hb : EvD X b ρ1 (.fz (.int j)) ρ2) : EvD X (.BinOp a .Add b pos) ρ (.fz (.int (i + j))) ρ2 := ev_bin (pe_op op_add) ha hb (od_I0 (gd := fun i j => .int (i + j)) fun _ => rfl)
theorem ev_sub (ha : EvD X a ρ (.fz (.int i)) ρ1) (hb : EvD X b ρ1 (.fz (.int j)) ρ2) : EvD X (.BinOp a .Sub b pos) ρ (.fz (.int (i - j))) ρ2 := ev_bin (pe_op op_sub) ha hb (od_I0 (gd := fun i j => .int (i - j)) fun _ => rfl)
theorem ev_mul (ha : EvD X a ρ (.fz (.int i)) ρ1) (hb : EvD X b ρ1 (.fz (.int j)) ρ2) (hc : CMul i j) : EvD X (.BinOp a .Mult b pos) ρ (.fz (.int (i * j))) ρ2 := ev_bin (pe_op op_mul) ha hb (od_I (gd := fun i j => .int (i * j)) hc fun _ => rfl)
theorem ev_fdiv (ha : EvD X a ρ (.fz (.int i)) ρ1) (hb : EvD X b ρ1 (.fz (.int j)) ρ2) (hc : CDiv i j) : EvD X (.BinOp a .FloorDiv b pos) ρ (.fz (.int (i / j))) ρ2 := ev_bin (pe_op op_fdiv) ha hb (od_I (gd := fun i j => .int (i / j)) hc fun _ => rfl)
theorem ev_mod (ha : EvD X a ρ (.fz (.int i)) ρ1) (hb : EvD X b ρ1 (.fz (.int j)) ρ2) (hc : 0 < j) : EvD X (.BinOp a .Mod b pos) ρ (.fz (.int (i % j))) ρ2 := ev_bin (pe_op op_mod) ha hb (od_I (C := fun _ j => 0 < j) (gd := fun i j => .int (i % j)) hc fun _ => rfl)
theorem ev_pow (ha : EvD X a ρ (.fz (.int i)) ρ1) (hb : EvD X b ρ1 (.fz (.int j)) ρ2) (hc : CPow i j) : EvD X (.BinOp a .Pow b pos) ρ (.fz (.int (i ^ j.toNat))) ρ2 := ev_bin (pe_op op_pow) ha hb (od_I (gd := fun i j => .int (i ^ j.toNat)) hc fun _ => rfl)
theorem ev_shl (ha : EvD X a ρ (.fz (.int i)) ρ1) (hb : EvD X b ρ1 (.fz (.int j)) ρ2) (hc : CPow i j) : EvD X (.BinOp a .LShift b pos) ρ (.fz (.int (i * 2 ^ j.toNat))) ρ2 := ev_bin (pe_op op_shl) ha hb (od_I (gd := fun i j => .int (i * 2 ^ j.toNat)) hc fun _ => rfl)
theorem ev_shr (ha : EvD X a ρ (.fz (.int i)) ρ1) (hb : EvD X b ρ1 (.fz (.int j)) ρ2) (hc : 0 ≤ j) : EvD X (.BinOp a .RShift b pos) ρ (.fz (.int (i / 2 ^ j.toNat))) ρ2 := ev_bin (pe_op op_shr) ha hb (od_I (C := fun _ j => 0 ≤ j) (gd := fun i j => .int (i / 2 ^ j.toNat)) hc fun _ => rfl)
theorem ev_and (ha : EvD X a ρ (.fz (.int i)) ρ1) (hb : EvD X b ρ1 (.fz (.int j)) ρ2) : EvD X (.BinOp a .BitAnd b pos) ρ (.fz (.int (Builtin.bitAnd i j))) ρ2 := ev_bin (pe_op op_and) ha hb (od_I0 (gd := fun i j => .int (Builtin.bitAnd i j)) fun _ => rfl)
theorem ev_or (ha : EvD X a ρ (.fz (.int i)) ρ1) (hb : EvD X b ρ1 (.fz (.int j)) ρ2) : EvD X (.BinOp a .BitOr b pos) ρ (.fz (.int (Builtin.bitOr i j))) ρ2 := ev_bin (pe_op op_or) ha hb (od_I0 (gd := fun i j => .int (Builtin.bitOr i j)) fun _ => rfl)
theorem ev_xor (ha : EvD X a ρ (.fz (.int i)) ρ1) (hb : EvD X b ρ1 (.fz (.int j)) ρ2) : EvD X (.BinOp a .BitXor b pos) ρ (.fz (.int (Builtin.bitXor i j))) ρ2 := ev_bin (pe_op op_xor) ha hb (od_I0 (gd := fun i j => .int (Builtin.bitXor i j)) fun _ => rfl)
theorem ev_neg (ha : EvD X a ρ (.fz (.int i)) ρ1) : EvD X (.UnaryOp .USub a pos) ρ (.fz (.int (-i))) ρ1 := ev_un1 (pe_un un_neg) ha fun v B H Q s hv q => ⟨i, hv, q _ B H (Grw.refl s) rfl⟩
theorem ev_inv (ha : EvD X a ρ (.fz (.int i)) ρ1) : EvD X (.UnaryOp .Invert a pos) ρ (.fz (.int (Builtin.bitNot i))) ρ1 := ev_un1 (pe_un un_inv) ha fun v B H Q s hv q => ⟨i, hv, q _ B H (Grw.refl s) rfl⟩

/-- another way to say the result -/
theorem ev_as {r r' : Var} (h : EvD X e ρ r ρ') (e' : r = r') : EvD X e ρ r' ρ' := e' ▸ h

/-! ### comparisons -/
def wC (X : Cx) (op : CmpOp) (a b : Expr) : TE := fun σ H Q => ∀ (pins : List (Addr × Obj)) (s : Shared), Inv X pins σ H s →
  wpAny (model X.prog X.w) X.A (eval a X.env) (fun v s₁ => wpAny (model X.prog X.w) X.A (eval b X.env) (fun u s₂ => wpAny (model X.prog X.w) X.A (compareOp op v u) (EP X pins σ Q) X.xe s₂) X.xe s₁) X.xe s
theorem pc_w {op : CmpOp} : PC X op a b (wC X op a b) := ⟨fun pins s _ _ _ I h => h pins s I⟩
theorem wC.of {op : CmpOp} {t : TE} {σ : L2.St} {H : Hp} {Q : VK} (h : PC X op a b t) (q : t σ H Q) : wC X op a b σ H Q := fun pins s I => h.run pins s σ H Q I q
/-- a op b, as it is compared -/
structure CpD (X : Cx) (op : CmpOp) (a b : Expr) (ρ : VE) (r : Var) (ρ' : VE) : Prop where
  run : ∀ (σ : L2.St) (B H : Hp) (Q : VK), EnvOk X.K B H σ ρ →
  (∀ v B' H', EnvOk X.K B' H' σ ρ' → Go (Rt σ ρ) B H (Rt σ ρ') B' H' → ResOk X.K H (Rt σ ρ') B' H' r v → Q v H') → wC X op a b σ H Q
instance {X : Cx} {op : CmpOp} {a b : Expr} {ρ : VE} {r : Var} {ρ' : VE} : CoeFun (CpD X op a b ρ r ρ') fun _ => ∀ (σ : L2.St) (B H : Hp) (Q : VK), EnvOk X.K B H σ ρ →
  (∀ v B' H', EnvOk X.K B' H' σ ρ' → Go (Rt σ ρ) B H (Rt σ ρ') B' H' → ResOk X.K H (Rt σ ρ') B' H' r v → Q v H') → wC X op a b σ H Q := ⟨CpD.run⟩
theorem ev_cp {op : CmpOp} (h : CpD X op a b ρ res ρ') (hm : behindInMarks op b = false := by first | exact nobehind _ (by decide) (by decide) | rfl) : EvD X (.Compare a [op] [b] pos) ρ res ρ' := .mk fun σ B H Q I q => wE.of (pe_cmp pc_w hm) (h σ B H Q I q)
theorem et_cp {op : CmpOp} {c : Bool} (h : CpD X op a b ρ (.fz (.bl c)) ρ') (hm : behindInMarks op b = false := by first | exact nobehind _ (by decide) (by decide) | rfl) : EvT X (.Compare a [op] [b] pos) ρ c ρ' := .mk fun σ B H Q I q => wT.of (pt_cmp pc_w hm) (h σ B H _ I fun v B' H' I' g r => ⟨c, r, q B' H' I' g⟩)
theorem cp_op {op : CmpOp} (ho : OpR X (compareOp op) r) (ha : EvD X a ρ (.fz x) ρ1) (hb : EvD X b ρ1 (.fz y) ρ2) (hr : OpD X r x y res) : CpD X op a b ρ res ρ2 := .mk fun σ B H Q I q => by
  have hp : PC X op a b (tOp r (wE X a) (wE X b)) := ⟨fun pins s σ H Q I h => binT pe_w pe_w I h fun v u s2 x y H2 I2 rx ry q => ho pins s2 σ H2 x y v u Q I2 rx ry q⟩
  refine wC.of hp (ha σ B H _ I fun v B1 H1 I1 g1 r1 => hb σ B1 H1 _ I1 fun w B2 H2 I2 g2 r2 => ?_)
  refine hr v w B2 H2 Q I2.sub (Rep.mono g2.bsub r1) r2 fun u B' H' g h => ?_
  obtain ⟨i1, i2, i3⟩ := fin_op I2 (g1.trans g2) g h
  exact q u B' H' i1 i2 i3
theorem cp_as {op : CmpOp} {r r' : Var} (h : CpD X op a b ρ r ρ') (e' : r = r') : CpD X op a b ρ r' ρ' := e' ▸ h
theorem cp_lt (ha : EvD X a ρ (.fz (.int i)) ρ1) (hb : EvD X b ρ1 (.fz (.int j)) ρ2) : CpD X .Lt a b ρ (.fz (.bl (decide (i < j)))) ρ2 := cp_op op_lt ha hb (od_I0 (gd := fun i j => .bl (decide (i < j))) fun _ => rfl)
theorem cp_le (ha : EvD X a ρ (.fz (.int i)) ρ1) (hb : EvD X b ρ1 (.fz (.int j)) ρ2) : CpD X .LtE a b ρ (.fz (.bl (decide (i ≤ j)))) ρ2 := cp_op op_le ha hb (od_I0 (gd := fun i j => .bl (decide (i ≤ j))) fun _ => rfl)
theorem cp_gt (ha : EvD X a ρ (.fz (.int i)) ρ1) (hb : EvD X b ρ1 (.fz (.int j)) ρ2) : CpD X .Gt a b ρ (.fz (.bl (decide (j < i)))) ρ2 := cp_op op_gt ha hb (od_I0 (gd := fun i j => .bl (decide (j < i))) fun _ => rfl)
theorem cp_ge (ha : EvD X a ρ (.fz (.int i)) ρ1) (hb : EvD X b ρ1 (.fz (.int j)) ρ2) : CpD X .GtE a b ρ (.fz (.bl (decide (j ≤ i)))) ρ2 := cp_op op_ge ha hb (od_I0 (gd := fun i j => .bl (decide (j ≤ i))) fun _ => rfl)
end
end DL

/-! DL3: statements, loops. -/
namespace DL
open PySem PySem.Spec PyProof.Rows L2

/-- what is wanted behind a block: going on, a value handed back, break, continue -/
structure KS where
  nx : VE → Prop
  rt : Var → VE → Prop
  bk : VE → Prop := fun _ => False
  ct : VE → Prop := fun _ => False

structure GoS (σ : L2.St) (ρ : VE) (B H : Hp) (σ' : L2.St) (ρ' : VE) (B' H' : Hp) : Prop where
  go : Go (Rt σ ρ) B H (Rt σ' ρ') B' H'
  io : ∀ i : Nat, isIo ρ[i]? = true → isIo ρ'[i]? = true ∧ σ'[i]? = σ[i]?
def ResS (K : PySem.W.Frag) (H0 : Hp) (W W' : Addr → Prop) (B' H' : Hp) : Var → V → Prop
  | .fz d, v => Rep K B' d v
  | .ow d, v => ∃ a, v = .ref a ∧ Own K B' H' d a ∧ ¬ W' a ∧ (H0 a = none ∨ W a)
  | _, _ => False
theorem GoS.refl (σ : L2.St) (ρ : VE) (B H : Hp) : GoS σ ρ B H σ ρ B H := ⟨Go.refl _ _ _, fun _ h => ⟨h, rfl⟩⟩
theorem GoS.trans {σ σ1 σ2 : L2.St} {ρ ρ1 ρ2 : VE} {B H B1 H1 B2 H2 : Hp} (a : GoS σ ρ B H σ1 ρ1 B1 H1) (b : GoS σ1 ρ1 B1 H1 σ2 ρ2 B2 H2) : GoS σ ρ B H σ2 ρ2 B2 H2 :=
  ⟨a.go.trans b.go, fun i h => ⟨(b.io i (a.io i h).1).1, (b.io i (a.io i h).1).2.trans (a.io i h).2⟩⟩
theorem ResS.back {K : PySem.W.Frag} {H H1 B' H' B B1 : Hp} {W W1 W' : Addr → Prop} (g : Go W B H W1 B1 H1) : ∀ {r : Var} {v : V}, ResS K H1 W1 W' B' H' r v → ResS K H W W' B' H' r v
  | .fz _, _, h => h
  | .ow _, _, ⟨a, e, o, n, z⟩ => ⟨a, e, o, n, by
    rcases z with z | z
    · exact .inl (g.free z)
    · rcases g.roots a z with q | q
      · exact .inr q
      · exact .inl q⟩
  | .un, _, h => h.elim
  | .io _, _, h => h.elim

/-- the ends of the heap's block serve what is wanted -/
structure Serves (X : Cx) (κ : KS) (σ : L2.St) (ρ : VE) (B H : Hp) (D : Ends) : Prop where
  nx : ∀ σ' ρ' B' H', κ.nx ρ' → EnvOk X.K B' H' σ' ρ' → GoS σ ρ B H σ' ρ' B' H' → D.nx σ' H'
  bk : ∀ σ' ρ' B' H', κ.bk ρ' → EnvOk X.K B' H' σ' ρ' → GoS σ ρ B H σ' ρ' B' H' → D.bk σ' H'
  ct : ∀ σ' ρ' B' H', κ.ct ρ' → EnvOk X.K B' H' σ' ρ' → GoS σ ρ B H σ' ρ' B' H' → D.ct σ' H'
  rt : ∀ v r σ' ρ' B' H', κ.rt r ρ' → EnvOk X.K B' H' σ' ρ' → GoS σ ρ B H σ' ρ' B' H' → ResS X.K H (Rt σ ρ) (Rt σ' ρ') B' H' r v → D.rt v H'
theorem Serves.go {X : Cx} {κ : KS} {σ σ1 : L2.St} {ρ ρ1 : VE} {B H B1 H1 : Hp} {D : Ends} (h : Serves X κ σ ρ B H D) (g : GoS σ ρ B H σ1 ρ1 B1 H1) : Serves X κ σ1 ρ1 B1 H1 D :=
  ⟨fun σ' ρ' B' H' k I z => h.nx σ' ρ' B' H' k I (g.trans z), fun σ' ρ' B' H' k I z => h.bk σ' ρ' B' H' k I (g.trans z), fun σ' ρ' B' H' k I z => h.ct σ' ρ' B' H' k I (g.trans z),
    fun v r σ' ρ' B' H' k I z q => h.rt v r σ' ρ' B' H' k I (g.trans z) (q.back g.go)⟩

structure XS (X : Cx) (sts : List Stmt) (ρ : VE) (κ : KS) : Prop where
  run : ∀ (σ : L2.St) (B H : Hp) (D : Ends), EnvOk X.K B H σ ρ → Serves X κ σ ρ B H D → wSs X sts D σ H
instance {X : Cx} {sts : List Stmt} {ρ : VE} {κ : KS} : CoeFun (XS X sts ρ κ) fun _ => ∀ (σ : L2.St) (B H : Hp) (D : Ends), EnvOk X.K B H σ ρ → Serves X κ σ ρ B H D → wSs X sts D σ H := ⟨XS.run⟩
structure X1 (X : Cx) (st : Stmt) (ρ : VE) (κ : KS) : Prop where
  run : ∀ (σ : L2.St) (B H : Hp) (D : Ends), EnvOk X.K B H σ ρ → Serves X κ σ ρ B H D → wS X st D σ H
instance {X : Cx} {st : Stmt} {ρ : VE} {κ : KS} : CoeFun (X1 X st ρ κ) fun _ => ∀ (σ : L2.St) (B H : Hp) (D : Ends), EnvOk X.K B H σ ρ → Serves X κ σ ρ B H D → wS X st D σ H := ⟨X1.run⟩

section
variable {X : Cx} {st : Stmt} {sts : List Stmt} {ρ ρ1 ρ2 ρ' : VE} {κ : KS} {e : Expr} {d : D} {r : Var} {pos : Pos}
theorem xs_nil (h : κ.nx ρ) : XS X [] ρ κ := .mk fun σ B H D I S => wSs.of pss_nil (S.nx σ ρ B H h I (GoS.refl ..))
theorem xs_cons (h : X1 X st ρ { κ with nx := fun ρ2 => XS X sts ρ2 κ }) : XS X (st :: sts) ρ κ := .mk fun σ B H D I S =>
  wSs.of (pss_cons ps_w pss_w) (h σ B H { D with nx := wSs X sts D } I ⟨fun σ' ρ' B' H' k I' g => k σ' B' H' D I' (S.go g), S.bk, S.ct, S.rt⟩)
theorem xs_one (h : X1 X st ρ κ) : XS X [st] ρ κ := .mk fun σ B H D I S => wSs.of (pss_one ps_w) (h σ B H D I S)
/-- several statements, a word behind the first -/
theorem xs_mid (M : VE → Prop) (h : X1 X st ρ { κ with nx := M }) (k : ∀ ρ', M ρ' → XS X sts ρ' κ) : XS X (st :: sts) ρ κ := .mk fun σ B H D I S =>
  wSs.of (pss_cons ps_w pss_w) (h σ B H { D with nx := wSs X sts D } I ⟨fun σ' ρ' B' H' m I' g => k ρ' m σ' B' H' D I' (S.go g), S.bk, S.ct, S.rt⟩)
theorem x1_pass (h : κ.nx ρ) : X1 X (.Pass pos) ρ κ := .mk fun σ B H D I S => wS.of ps_pass (S.nx σ ρ B H h I (GoS.refl ..))
theorem x1_break (h : κ.bk ρ) : X1 X (.Break pos) ρ κ := .mk fun σ B H D I S => wS.of ps_break (S.bk σ ρ B H h I (GoS.refl ..))
theorem x1_cont (h : κ.ct ρ) : X1 X (.Continue pos) ρ κ := .mk fun σ B H D I S => wS.of ps_continue (S.ct σ ρ B H h I (GoS.refl ..))

/-- what an expression leaves, as a statement's step -/
theorem go_s {σ : L2.St} {B H B' H' : Hp} (g : Go (Rt σ ρ) B H (Rt σ ρ') B' H') (io : ∀ i : Nat, isIo ρ[i]? = true → isIo ρ'[i]? = true) : GoS σ ρ B H σ ρ' B' H' := ⟨g, fun i h => ⟨io i h, rfl⟩⟩
/-- in/out variables stay so -/
def IoK (ρ ρ' : VE) : Prop := ∀ i : Nat, isIo ρ[i]? = true → isIo ρ'[i]? = true
theorem IoK.refl (ρ : VE) : IoK ρ ρ := fun _ h => h
theorem IoK.trans {ρ ρ1 ρ2 : VE} (a : IoK ρ ρ1) (b : IoK ρ1 ρ2) : IoK ρ ρ2 := fun i h => b i (a i h)
def ioK : VE → VE → Bool
  | [], _ => true
  | .io _ :: r, .io _ :: r' => ioK r r'
  | .io _ :: _, _ => false
  | _ :: r, [] => ioK r []
  | _ :: r, _ :: r' => ioK r r'
theorem ioK_ok : ∀ {ρ ρ' : VE}, ioK ρ ρ' = true → IoK ρ ρ'
  | [], _, _, i, h => by simp [isIo] at h
  | .io d :: r, .io e :: r', k, 0, h => rfl
  | .io d :: r, .io e :: r', k, i + 1, h => ioK_ok (ρ := r) (ρ' := r') k i h
  | .io d :: r, [], k, _, _ => by cases k
  | .io d :: r, .un :: _, k, _, _ => by cases k
  | .io d :: r, .fz _ :: _, k, _, _ => by cases k
  | .io d :: r, .ow _ :: _, k, _, _ => by cases k
  | .un :: r, [], k, 0, h => by cases h
  | .un :: r, [], k, i + 1, h => ioK_ok (ρ := r) (ρ' := []) k i h
  | .fz _ :: r, [], k, 0, h => by cases h
  | .fz _ :: r, [], k, i + 1, h => ioK_ok (ρ := r) (ρ' := []) k i h
  | .ow _ :: r, [], k, 0, h => by cases h
  | .ow _ :: r, [], k, i + 1, h => ioK_ok (ρ := r) (ρ' := []) k i h
  | .un :: r, _ :: r', k, 0, h => by cases h
  | .un :: r, _ :: r', k, i + 1, h => ioK_ok (ρ := r) (ρ' := r') k i h
  | .fz _ :: r, _ :: r', k, 0, h => by cases h
  | .fz _ :: r, _ :: r', k, i + 1, h => ioK_ok (ρ := r) (ρ' := r') k i h
  | .ow _ :: r, _ :: r', k, 0, h => by cases h
  | .ow _ :: r, _ :: r', k, i + 1, h => ioK_ok (ρ := r) (ρ' := r') k i h

theorem x1_expr (h : EvD X e ρ r ρ1) (k : κ.nx ρ1) (io : IoK ρ ρ1 := by first | exact IoK.refl _ | exact ioK_ok rfl) (hs : swapsWith e none pos.line X.env = pure false := by rfl) : X1 X (.Expr e pos) ρ κ := .mk fun σ B H D I S =>
  wS.of (ps_expr pe_w hs) (h σ B H _ I fun v B' H' I' g _ => S.nx σ ρ1 B' H' k I' (go_s g io))
theorem x1_ret (h : EvD X e ρ r ρ1) (k : κ.rt r ρ1) (io : IoK ρ ρ1 := by first | exact IoK.refl _ | exact ioK_ok rfl) : X1 X (.Return (some e) pos) ρ κ := .mk fun σ B H D I S =>
  wS.of (ps_ret pe_w) (h σ B H _ I fun v B' H' I' g q => S.rt v r σ ρ1 B' H' k I' (go_s g io) (by
    cases r with
    | fz d => exact q
    | ow d => obtain ⟨a, e, o, n, z⟩ := q; exact ⟨a, e, o, n, .inl z⟩
    | un => exact q
    | io d => exact q))
theorem x1_retN (k : κ.rt (.fz .non) ρ) : X1 X (.Return none pos) ρ κ := .mk fun σ B H D I S =>
  wS.of ps_retN (S.rt .non (.fz .non) σ ρ B H k I (GoS.refl ..) rfl)

/-! ### a variable is set -/
theorem isOw_set {ρ : VE} {i j : Nat} {r : Var} (h : isOw (ρ.set i r)[j]? = true) : (j = i ∧ isOw (some r) = true) ∨ (j ≠ i ∧ isOw ρ[j]? = true) := by
  by_cases e : j = i
  · subst e
    left
    refine ⟨rfl, ?_⟩
    by_cases hl : j < ρ.length
    · rw [List.getElem?_set_self hl] at h; exact h
    · rw [List.getElem?_eq_none (by simpa using Nat.le_of_not_lt hl)] at h; cases h
  · right
    rw [List.getElem?_set_ne (Ne.symm e)] at h
    exact ⟨e, h⟩
theorem Own.grw {K : PySem.W.Frag} {B H B' H' : Hp} (g : Grw B H B' H') {d : D} {a : Addr} (r : Own K B H d a) : Own K B' H' d a :=
  let ⟨_, q⟩ := r.some
  r.mono g.bsub (g.none r.none q) fun o h => g.hsub _ _ h
/-- a name is given a value: what stands behind it -/
theorem EnvOk.setv {K : PySem.W.Frag} {B H : Hp} {σ : L2.St} {i : Nat} {v : V} (I : EnvOk K B H σ ρ) (hi : i < ρ.length) (hv : VarOk K B H r (some (some v))) (hn : isOw (some r) = true → ∀ a, v = .ref a → ¬ Rt σ ρ a) : EnvOk K B H (σ.set i (some v)) (ρ.set i r) := by
  have hi' : i < σ.length := by rw [← I.len]; exact hi
  refine ⟨I.sub, by rw [List.length_set, List.length_set]; exact I.len, fun j s e => ?_, fun j k a hjk h1 h2 e1 e2 => ?_⟩
  · by_cases hj : j = i
    · subst hj
      rw [List.getElem?_set_self hi] at e
      cases e
      rw [List.getElem?_set_self hi']
      exact hv
    · rw [List.getElem?_set_ne (Ne.symm hj)] at e ⊢
      exact I.var j s e
  · rcases isOw_set h1 with ⟨z1, w1⟩ | ⟨z1, w1⟩ <;> rcases isOw_set h2 with ⟨z2, w2⟩ | ⟨z2, w2⟩
    · exact hjk (z1.trans z2.symm)
    · subst z1
      rw [List.getElem?_set_self hi'] at e1
      rw [List.getElem?_set_ne (Ne.symm z2)] at e2
      have e3 : v = .ref a := Option.some.inj (Option.some.inj e1)
      exact hn w1 a e3 ⟨k, w2, e2⟩
    · subst z2
      rw [List.getElem?_set_self hi'] at e2
      rw [List.getElem?_set_ne (Ne.symm z1)] at e1
      have e3 : v = .ref a := Option.some.inj (Option.some.inj e2)
      exact hn w2 a e3 ⟨j, w1, e1⟩
    · rw [List.getElem?_set_ne (Ne.symm z1)] at e1
      rw [List.getElem?_set_ne (Ne.symm z2)] at e2
      exact I.sep j k a hjk w1 w2 e1 e2
theorem rt_set {σ : L2.St} {i : Nat} {v : V} {a : Addr} (hl : ρ.length = σ.length) (hi : i < ρ.length) (h : Rt (σ.set i (some v)) (ρ.set i r) a) : (isOw (some r) = true ∧ v = .ref a) ∨ Rt σ ρ a := by
  obtain ⟨j, h1, h2⟩ := h
  rcases isOw_set h1 with ⟨z1, w1⟩ | ⟨z1, w1⟩
  · subst z1
    rw [List.getElem?_set_self (by rw [← hl]; exact hi)] at h2
    exact .inl ⟨w1, Option.some.inj (Option.some.inj h2)⟩
  · rw [List.getElem?_set_ne (Ne.symm z1)] at h2
    exact .inr ⟨j, w1, h2⟩
/-- the state behind x = (an expression's result) -/
theorem set_step {K : PySem.W.Frag} {σ : L2.St} {B H B' H' : Hp} {i : Nat} {v : V} (I : EnvOk K B' H' σ ρ1) (g : Go (Rt σ ρ) B H (Rt σ ρ1) B' H') (q : ResOk K H (Rt σ ρ1) B' H' r v) (hi : i < ρ1.length) (io : IoK ρ ρ1) (hio : isIo ρ1[i]? = false) :
    EnvOk K B' H' (σ.set i (some v)) (ρ1.set i r) ∧ GoS σ ρ B H (σ.set i (some v)) (ρ1.set i r) B' H' := by
  have hr : (isOw (some r) = true → ∀ a, v = .ref a → ¬ Rt σ ρ1 a ∧ H a = none) ∧ VarOk K B' H' r (some (some v)) := by
    cases r with
    | un => exact q.elim
    | fz d => exact ⟨fun z => Bool.noConfusion z, ⟨v, rfl, q⟩⟩
    | io d => exact q.elim
    | ow d =>
      obtain ⟨a, e, o, n, z⟩ := q
      subst e
      exact ⟨fun _ b e => by cases e; exact ⟨n, z⟩, ⟨a, rfl, o⟩⟩
  refine ⟨I.setv hi hr.2 fun z a e => (hr.1 z a e).1, ⟨⟨g.bsub, g.keep, g.there, g.new, fun a h => ?_⟩, fun j h => ?_⟩⟩
  · rcases rt_set I.len hi h with ⟨z, e⟩ | h
    · exact .inr (hr.1 z a e).2
    · exact g.roots a h
  · have h1 := io j h
    have hj : j ≠ i := fun z => by rw [z, hio] at h1; cases h1
    rw [List.getElem?_set_ne (Ne.symm hj), List.getElem?_set_ne (Ne.symm hj)]
    exact ⟨h1, rfl⟩
theorem lt_of_get {ρ : VE} {i : Nat} {s : Var} (h : ρ[i]? = some s) : i < ρ.length := (List.getElem?_eq_some_iff.mp h).1
/-- name = e -/
theorem x1_set (i : Nat) {x : Str} {pos' : Pos} (h : EvD X e ρ r ρ1) (hN : X.N.Nodup) (hi : X.N[i]? = some x) (hx : Loc X.env.scope x) (k : κ.nx (ρ1.set i r)) (hl : decide (i < ρ1.length) = true := by rfl) (hio : isIo ρ1[i]? = false := by rfl) (io : IoK ρ ρ1 := by first | exact IoK.refl _ | exact ioK_ok rfl)
    (hs : swapsWith e (some (.Name x pos')) pos.line X.env = pure false := by rfl) (hf : X.fn x = true ∨ X.env.scope.names.lookup x = some .local := by first | exact .inl rfl | exact .inr rfl | assumption) : X1 X (.Assign [.Name x pos'] e pos) ρ κ := .mk fun σ B H D I S =>
  wS.of (ps_set hN hi hx pe_w hs hf) (h σ B H _ I fun v B' H' I' g q => by
    obtain ⟨I2, g2⟩ := set_step I' g q (of_decide_eq_true hl) io hio
    exact S.nx _ _ B' H' k I2 g2)

/-! ### tests -/
/-- an expression that gives a bool, as a test -/
theorem et_val {b : Bool} (h : EvD X e ρ (.fz (.bl b)) ρ1) (he : ∀ whole, isTrue e X.env whole = (do let v ← whole; standAt e.pos; holding [v] (truthy v)) := by intro _; rfl) : EvT X e ρ b ρ1 := .mk fun σ B H Q I q =>
  wT.of (pt_val pe_w he) (h σ B H _ I fun v B' H' I' g r => ⟨b, r, q B' H' I' g⟩)
theorem et_not {b : Bool} (h : EvT X e ρ b ρ1) : EvT X (.UnaryOp .Not e pos) ρ (!b) ρ1 := .mk fun σ B H Q I q => wT.of (pt_not pt_w) (h σ B H _ I fun B' H' I' g => q B' H' I' g)
/-- a test whatever its whole is -/
structure EvW (X : Cx) (e : Expr) (ρ : VE) (b : Bool) (ρ' : VE) : Prop where
  run : ∀ (σ : L2.St) (B H : Hp) (Q : Bool → Hp → Prop), EnvOk X.K B H σ ρ →
  (∀ B' H', EnvOk X.K B' H' σ ρ' → Go (Rt σ ρ) B H (Rt σ ρ') B' H' → Q b H') → ∀ (whole : Sem Value) (pins : List (Addr × Obj)) (s : Shared), Inv X pins σ H s → wpAny (model X.prog X.w) X.A (isTrue e X.env whole) (TP X pins σ Q) X.xe s
instance {X : Cx} {e : Expr} {ρ : VE} {b : Bool} {ρ' : VE} : CoeFun (EvW X e ρ b ρ') fun _ => ∀ (σ : L2.St) (B H : Hp) (Q : Bool → Hp → Prop), EnvOk X.K B H σ ρ →
  (∀ B' H', EnvOk X.K B' H' σ ρ' → Go (Rt σ ρ) B H (Rt σ ρ') B' H' → Q b H') → ∀ (whole : Sem Value) (pins : List (Addr × Obj)) (s : Shared), Inv X pins σ H s → wpAny (model X.prog X.w) X.A (isTrue e X.env whole) (TP X pins σ Q) X.xe s := ⟨EvW.run⟩
def wW (X : Cx) (e : Expr) : TT := fun σ H Q => ∀ (whole : Sem Value) (pins : List (Addr × Obj)) (s : Shared), Inv X pins σ H s → wpAny (model X.prog X.w) X.A (isTrue e X.env whole) (TP X pins σ Q) X.xe s
theorem pw_w : PW X e (wW X e) := ⟨fun wh pins s _ _ _ I h => h wh pins s I⟩
theorem EvW.t {b : Bool} (h : EvW X e ρ b ρ1) : EvT X e ρ b ρ1 := .mk fun σ B H Q I q => wT.of pw_w.pt (h σ B H Q I q)
variable {a b : Expr} {rest : List Expr} {c c' : Bool}
theorem ew_and1 (h : EvT X a ρ c ρ1) : EvW X (.BoolOp .And [a] pos) ρ c ρ1 := .mk fun σ B H Q I q wh pins s II => (pw_and1 pt_w).run wh pins s σ H Q II (h σ B H Q I q)
theorem ew_or1 (h : EvT X a ρ c ρ1) : EvW X (.BoolOp .Or [a] pos) ρ c ρ1 := .mk fun σ B H Q I q wh pins s II => (pw_or1 pt_w).run wh pins s σ H Q II (h σ B H Q I q)
/-- a and ..: the rest is asked if a holds; both ends leave the variables as they are -/
theorem ew_and (h : EvT X a ρ c ρ) (h2 : c = true → EvW X (.BoolOp .And (b :: rest) pos) ρ c' ρ) : EvW X (.BoolOp .And (a :: b :: rest) pos) ρ (c && c') ρ := .mk fun σ B H Q I q wh pins s II => by
  refine (pw_and (tB' := wW X (.BoolOp .And (b :: rest) pos)) pt_w pw_w).run wh pins s σ H Q II (h σ B H _ I fun B1 H1 I1 g1 => ?_)
  cases c with
  | true => exact iteT (h2 rfl σ B1 H1 Q I1 fun B2 H2 I2 g2 => q B2 H2 I2 (g1.trans g2))
  | false => exact iteF (q B1 H1 I1 g1)
theorem ew_or (h : EvT X a ρ c ρ) (h2 : c = false → EvW X (.BoolOp .Or (b :: rest) pos) ρ c' ρ) : EvW X (.BoolOp .Or (a :: b :: rest) pos) ρ (c || c') ρ := .mk fun σ B H Q I q wh pins s II => by
  refine (pw_or (tB' := wW X (.BoolOp .Or (b :: rest) pos)) pt_w pw_w).run wh pins s σ H Q II (h σ B H _ I fun B1 H1 I1 g1 => ?_)
  cases c with
  | false => exact iteF (h2 rfl σ B1 H1 Q I1 fun B2 H2 I2 g2 => q B2 H2 I2 (g1.trans g2))
  | true => exact iteT (q B1 H1 I1 g1)
/-- as values -/
theorem ev_one {op} (h : EvD X a ρ r ρ1) : EvD X (.BoolOp op [a] pos) ρ r ρ1 := .mk fun σ B H Q I q => wE.of (pe_one pe_w) (h σ B H Q I q)
theorem ev_andV (h : EvD X a ρ (.fz (.bl c)) ρ) (h2 : c = true → EvD X (.BoolOp .And (b :: rest) pos) ρ (.fz (.bl c')) ρ) : EvD X (.BoolOp .And (a :: b :: rest) pos) ρ (.fz (.bl (c && c'))) ρ := .mk fun σ B H Q I q => by
  refine wE.of (pe_and pe_w pe_w) (h σ B H _ I fun v B1 H1 I1 g1 r1 => ⟨c, r1, ?_⟩)
  cases c with
  | true => exact iteT (h2 rfl σ B1 H1 Q I1 fun v B2 H2 I2 g2 r2 => q v B2 H2 I2 (g1.trans g2) r2)
  | false => exact iteF (q _ B1 H1 I1 g1 rfl)
theorem ev_orV (h : EvD X a ρ (.fz (.bl c)) ρ) (h2 : c = false → EvD X (.BoolOp .Or (b :: rest) pos) ρ (.fz (.bl c')) ρ) : EvD X (.BoolOp .Or (a :: b :: rest) pos) ρ (.fz (.bl (c || c'))) ρ := .mk fun σ B H Q I q => by
  refine wE.of (pe_or pe_w pe_w) (h σ B H _ I fun v B1 H1 I1 g1 r1 => ⟨c, r1, ?_⟩)
  cases c with
  | false => exact iteF (h2 rfl σ B1 H1 Q I1 fun v B2 H2 I2 g2 r2 => q v B2 H2 I2 (g1.trans g2) r2)
  | true => exact iteT (q _ B1 H1 I1 g1 rfl)
theorem ev_not (h : EvD X a ρ (.fz (.bl c)) ρ1) : EvD X (.UnaryOp .Not a pos) ρ (.fz (.bl (!c))) ρ1 := .mk fun σ B H Q I q => wE.of (pe_not pe_w) (h σ B H _ I fun v B1 H1 I1 g1 r1 => ⟨c, r1, q _ B1 H1 I1 g1 rfl⟩)
theorem ResOk.from {K : PySem.W.Frag} {H H1 : Hp} {W' : Addr → Prop} {B' H' : Hp} (n : ∀ a, H1 a = none → H a = none) : ∀ {r : Var} {v : V}, ResOk K H1 W' B' H' r v → ResOk K H W' B' H' r v
  | .fz _, _, h => h
  | .ow _, _, ⟨a, e, o, w, z⟩ => ⟨a, e, o, w, n a z⟩
  | .un, _, h => h.elim
  | .io _, _, h => h.elim
/-- x if c else y -/
theorem ev_if {t : Expr} (h : EvT X t ρ c ρ1) (h1 : c = true → EvD X a ρ1 r ρ2) (h2 : c = false → EvD X b ρ1 r ρ2) : EvD X (.IfExp t a b pos) ρ r ρ2 := .mk fun σ B H Q I q => by
  refine wE.of (pe_ifExp pt_w pe_w pe_w) (h σ B H _ I fun B1 H1 I1 g1 => ?_)
  cases c with
  | true => exact iteT (h1 rfl σ B1 H1 Q I1 fun v B2 H2 I2 g2 r2 => q v B2 H2 I2 (g1.trans g2) (r2.from fun _ z => g1.free z))
  | false => exact iteF (h2 rfl σ B1 H1 Q I1 fun v B2 H2 I2 g2 r2 => q v B2 H2 I2 (g1.trans g2) (r2.from fun _ z => g1.free z))

theorem x1_if {t : Expr} {sa sb : List Stmt} (h : EvT X t ρ c ρ1) (h1 : c = true → XS X sa ρ1 κ) (h2 : c = false → XS X sb ρ1 κ) (io : IoK ρ ρ1 := by first | exact IoK.refl _ | exact ioK_ok rfl) : X1 X (.If t sa sb pos) ρ κ := .mk fun σ B H D I S => by
  refine wS.of (ps_if pt_w pss_w pss_w) (h σ B H _ I fun B1 H1 I1 g1 => ?_)
  cases c with
  | true => exact iteT (h1 rfl σ B1 H1 D I1 (S.go (go_s g1 io)))
  | false => exact iteF (h2 rfl σ B1 H1 D I1 (S.go (go_s g1 io)))

/-! ### targets -/
def wG (X : Cx) (tg : Expr) : TG := fun v σ H Q => ∀ (pins : List (Addr × Obj)) (s : Shared) (u : Value), Inv X pins σ H s → RelV v u → wpAny (model X.prog X.w) X.A (assign tg X.env u) (fun _ s' => ∃ σ' H', Inv X pins σ' H' s' ∧ Q σ' H') X.xe s
def wGs (X : Cx) (ts : List Expr) : TGs := fun vs σ H Q => ∀ (pins : List (Addr × Obj)) (s : Shared) (us : List Value), Inv X pins σ H s → Vals vs us → wpAny (model X.prog X.w) X.A (assignInOrder ((assignEach ts X.env).map (·.2)) us) (fun _ s' => ∃ σ' H', Inv X pins σ' H' s' ∧ Q σ' H') X.xe s
variable {tg : Expr} {tgs : List Expr}
theorem pg_w : PG X tg (wG X tg) := ⟨fun pins s _ _ _ u _ I r h => h pins s u I r⟩
theorem pgs_w : PGs X tgs (wGs X tgs) := ⟨fun pins s _ _ _ us _ I r h => h pins s us I r⟩
theorem wG.of {t : TG} {v : V} {σ : L2.St} {H : Hp} {Q : L2.St → Hp → Prop} (h : PG X tg t) (q : t v σ H Q) : wG X tg v σ H Q := fun pins s u I r => h.run pins s σ H v u Q I r q
theorem wGs.of {t : TGs} {vs : List V} {σ : L2.St} {H : Hp} {Q : L2.St → Hp → Prop} (h : PGs X tgs t) (q : t vs σ H Q) : wGs X tgs vs σ H Q := fun pins s us I r => h.run pins s σ H vs us Q I r q
/-- the slots at js alone have changed -/
def Off (js : List Nat) (σ σ' : L2.St) : Prop := σ'.length = σ.length ∧ ∀ j : Nat, j ∉ js → σ'[j]? = σ[j]?
theorem Off.refl (js : List Nat) (σ : L2.St) : Off js σ σ := ⟨rfl, fun _ _ => rfl⟩
theorem Off.trans {js ks : List Nat} {σ σ1 σ2 : L2.St} (a : Off js σ σ1) (b : Off ks σ1 σ2) : Off (js ++ ks) σ σ2 := ⟨b.1.trans a.1, fun j h => (b.2 j fun z => h (List.mem_append_right _ z)).trans (a.2 j fun z => h (List.mem_append_left _ z))⟩
/-- a frozen value goes to a target (which sets the slots js) -/
structure XG (X : Cx) (tg : Expr) (js : List Nat) (d : D) (ρ : VE) (P : VE → Prop) : Prop where
  run : ∀ (σ : L2.St) (B H : Hp) (v : V) (Q : L2.St → Hp → Prop), EnvOk X.K B H σ ρ → Rep X.K B d v →
  (∀ σ' ρ' B' H', P ρ' → EnvOk X.K B' H' σ' ρ' → GoS σ ρ B H σ' ρ' B' H' → Off js σ σ' → Q σ' H') → wG X tg v σ H Q
instance {X : Cx} {tg : Expr} {js : List Nat} {d : D} {ρ : VE} {P : VE → Prop} : CoeFun (XG X tg js d ρ P) fun _ => ∀ (σ : L2.St) (B H : Hp) (v : V) (Q : L2.St → Hp → Prop), EnvOk X.K B H σ ρ → Rep X.K B d v →
  (∀ σ' ρ' B' H', P ρ' → EnvOk X.K B' H' σ' ρ' → GoS σ ρ B H σ' ρ' B' H' → Off js σ σ' → Q σ' H') → wG X tg v σ H Q := ⟨XG.run⟩
structure XGs (X : Cx) (tgs : List Expr) (js : List Nat) (ds : List D) (ρ : VE) (P : VE → Prop) : Prop where
  run : ∀ (σ : L2.St) (B H : Hp) (vs : List V) (Q : L2.St → Hp → Prop), EnvOk X.K B H σ ρ → RepL X.K B ds vs →
  (∀ σ' ρ' B' H', P ρ' → EnvOk X.K B' H' σ' ρ' → GoS σ ρ B H σ' ρ' B' H' → Off js σ σ' → Q σ' H') → wGs X tgs vs σ H Q
instance {X : Cx} {tgs : List Expr} {js : List Nat} {ds : List D} {ρ : VE} {P : VE → Prop} : CoeFun (XGs X tgs js ds ρ P) fun _ => ∀ (σ : L2.St) (B H : Hp) (vs : List V) (Q : L2.St → Hp → Prop), EnvOk X.K B H σ ρ → RepL X.K B ds vs →
  (∀ σ' ρ' B' H', P ρ' → EnvOk X.K B' H' σ' ρ' → GoS σ ρ B H σ' ρ' B' H' → Off js σ σ' → Q σ' H') → wGs X tgs vs σ H Q := ⟨XGs.run⟩
variable {P : VE → Prop} {js ks : List Nat}
theorem xg_name (i : Nat) {x : Str} (hN : X.N.Nodup) (hi : X.N[i]? = some x) (hx : Loc X.env.scope x) (k : P (ρ.set i (.fz d))) (hl : decide (i < ρ.length) = true := by rfl) (hio : isIo ρ[i]? = false := by rfl)
    (hf : X.fn x = true ∨ X.env.scope.names.lookup x = some .local := by first | exact .inl rfl | exact .inr rfl | assumption) : XG X (.Name x pos) [i] d ρ P := .mk fun σ B H v Q I r q => by
  obtain ⟨I2, g2⟩ := set_step (r := .fz d) (v := v) I (Go.refl (Rt σ ρ) B H) r (of_decide_eq_true hl) (IoK.refl ρ) hio
  exact wG.of (pg_name hN hi hx hf) (q _ _ B H k I2 g2 ⟨List.length_set .., fun j hj => List.getElem?_set_ne fun z => hj (by rw [z]; exact List.mem_singleton.mpr rfl)⟩)
theorem xgs_nil (k : P ρ) : XGs X [] [] [] ρ P := .mk fun σ B H vs Q I r q => wGs.of pgs_nil ⟨r, q σ ρ B H k I (GoS.refl ..) (Off.refl _ _)⟩
theorem xgs_cons {d : D} {ds : List D} (h : XG X tg js d ρ fun ρ2 => XGs X tgs ks ds ρ2 P) (hs : (assignEach (tg :: tgs) X.env).map (·.2) = assign tg X.env :: (assignEach tgs X.env).map (·.2) := by rfl) : XGs X (tg :: tgs) (js ++ ks) (d :: ds) ρ P := .mk fun σ B H vs Q I r q => by
  obtain ⟨v, w, e, r1, r2⟩ := r
  refine wGs.of (pgs_cons pg_w pgs_w hs) ⟨v, w, e, h σ B H v _ I r1 fun σ' ρ' B' H' k I' g o => ?_⟩
  exact k σ' B' H' w Q I' (RepL.mono g.go.bsub r2) fun σ2 ρ2 B2 H2 p I2 g2 o2 => q σ2 ρ2 B2 H2 p I2 (g.trans g2) (o.trans o2)
theorem xg_tup {ds : List D} {k : Nat} (hc : X.calm = true) (h : XGs X tgs js ds ρ P) (hn : (assignEach tgs X.env).length = ds.length := by rfl) (hst : (assignEach tgs X.env).findIdx? (·.1) = none := by rfl) : XG X (.Tuple tgs k pos) js (.tup ds) ρ P := .mk fun σ B H v Q I r q => by
  obtain ⟨a, vs, e, hs, r⟩ := r
  have hl := r.length
  exact wG.of (pg_tup hc pgs_w rfl hst) ⟨a, vs, e, same_t I.sub hs, by rw [hl, hn], h σ B H vs Q I r q⟩
/-- (a, b, ..) = a tuple -/
theorem x1_unpack (h : EvD X e ρ (.fz d) ρ1) (hg : XG X tg js d ρ1 κ.nx) (io : IoK ρ ρ1 := by first | exact IoK.refl _ | exact ioK_ok rfl) (hs : swapsWithSole [tg] e pos.line X.env = pure false := by rfl) (hw : swappedStores [tg] e X.env = pure none := by rfl)
    (h1 : (assignEach [tg] X.env).map (·.2) = [assign tg X.env] := by rfl) : X1 X (.Assign [tg] e pos) ρ κ := .mk fun σ B H D I S =>
  wS.of (ps_asg pe_w pg_w hs hw h1) (h σ B H _ I fun v B' H' I' g r => hg σ B' H' v D.nx I' r fun σ2 ρ2 B2 H2 p I2 g2 _ => S.nx σ2 ρ2 B2 H2 p I2 ((go_s g io).trans g2))
end

/-! ### what is walked -/
structure ItOk (K : PySem.W.Frag) (J : It) (B : Hp) (ds : List D) : Prop where
  go : ∀ B' H' i, Same B B' → Same B' H' → i < ds.length → J.go i H'
  stop : ∀ B' H' i, Same B B' → Same B' H' → ds.length = i → J.stop i H'
  yld : ∀ B' H' i d v H2, Same B B' → Same B' H' → ds[i]? = some d → J.yld i H' v H2 → ∃ B2, Grw B' H' B2 H2 ∧ Rep K B2 d v
def wI (X : Cx) (tg iter : Expr) : TI := fun σ H R => ∀ (pins : List (Addr × Obj)) (s : Shared), Inv X pins σ H s → wpAny (model X.prog X.w) X.A (eval iter X.env) (fun v s1 => wpAny (model X.prog X.w) X.A (pyIter v) (PIE X pins σ tg R) X.xe s1) X.xe s
structure EvI (X : Cx) (tg iter : Expr) (ρ : VE) (ds : List D) (ρ' : VE) : Prop where
  run : ∀ (σ : L2.St) (B H : Hp) (R : It → Hp → Prop), EnvOk X.K B H σ ρ →
  (∀ J B' H', EnvOk X.K B' H' σ ρ' → Go (Rt σ ρ) B H (Rt σ ρ') B' H' → ItOk X.K J B' ds → R J H') → wI X tg iter σ H R
instance {X : Cx} {tg iter : Expr} {ρ : VE} {ds : List D} {ρ' : VE} : CoeFun (EvI X tg iter ρ ds ρ') fun _ => ∀ (σ : L2.St) (B H : Hp) (R : It → Hp → Prop), EnvOk X.K B H σ ρ →
  (∀ J B' H', EnvOk X.K B' H' σ ρ' → Go (Rt σ ρ) B H (Rt σ ρ') B' H' → ItOk X.K J B' ds → R J H') → wI X tg iter σ H R := ⟨EvI.run⟩
section
variable {X : Cx} {tg iter : Expr} {ρ ρ1 ρ' : VE} {κ : KS} {body : List Stmt} {pos : Pos} {ds : List D} {js : List Nat}
theorem pi_w : PI X tg iter (wI X tg iter) := ⟨fun pins s _ _ _ I h => h pins s I⟩
theorem wI.of {t : TI} {σ : L2.St} {H : Hp} {R : It → Hp → Prop} (h : PI X tg iter t) (q : t σ H R) : wI X tg iter σ H R := fun pins s I => h.run pins s σ H R I q
theorem itok_list {K : PySem.W.Frag} {B : Hp} {a : Addr} {vs : List V} (h : SqL K B a vs) (r : RepL K B ds vs) : ItOk K (Itl K a) B ds := by
  have hl := r.length
  refine ⟨fun B' H' i s1 s2 hi => ⟨vs, vs[i]'(by omega), (s2.seq (s1.seq h)), List.getElem?_eq_getElem _⟩, fun B' H' i s1 s2 hi => ⟨vs, s2.seq (s1.seq h), by omega⟩, fun B' H' i d v H2 s1 s2 hd y => ?_⟩
  obtain ⟨e, y⟩ := y
  subst e
  obtain ⟨u, h1, h2⟩ := r.get hd
  have h3 := y vs (s2.seq (s1.seq h))
  rw [h1] at h3
  cases h3
  exact ⟨B', Grw.refl s2, h2.mono s1⟩
theorem itok_tup {K : PySem.W.Frag} {B : Hp} {a : Addr} {vs : List V} (h : SqT K B a vs) (r : RepL K B ds vs) : ItOk K (Itt K a) B ds := by
  have hl := r.length
  refine ⟨fun B' H' i s1 s2 hi => ⟨vs, vs[i]'(by omega), same_t s2 (same_t s1 h), List.getElem?_eq_getElem _⟩, fun B' H' i s1 s2 hi => ⟨vs, same_t s2 (same_t s1 h), by omega⟩, fun B' H' i d v H2 s1 s2 hd y => ?_⟩
  obtain ⟨e, y⟩ := y
  subst e
  obtain ⟨u, h1, h2⟩ := r.get hd
  have h3 := y vs (same_t s2 (same_t s1 h))
  rw [h1] at h3
  cases h3
  exact ⟨B', Grw.refl s2, h2.mono s1⟩
theorem ei_list (h : EvD X iter ρ (.fz (.lst ds)) ρ1) : EvI X tg iter ρ ds ρ1 := .mk fun σ B H R I q => wI.of (pi_list pe_w) (h σ B H _ I fun v B' H' I' g r => by
  obtain ⟨a, vs, e, hs, r⟩ := r
  exact ⟨a, e, ⟨vs, .inl (.inl (I'.sub _ _ hs))⟩, q _ B' H' I' g (itok_list (.inl (.inl hs)) r)⟩)
theorem ei_seq (h : EvD X iter ρ (.fz (.seq ds)) ρ1) : EvI X tg iter ρ ds ρ1 := .mk fun σ B H R I q => wI.of (pi_list pe_w) (h σ B H _ I fun v B' H' I' g r => by
  obtain ⟨a, vs, e, hs, r⟩ := r
  exact ⟨a, e, ⟨vs, I'.sub.seq hs⟩, q _ B' H' I' g (itok_list hs r)⟩)
theorem ei_tup (h : EvD X iter ρ (.fz (.tup ds)) ρ1) : EvI X tg iter ρ ds ρ1 := .mk fun σ B H R I q => wI.of (pi_tup pe_w) (h σ B H _ I fun v B' H' I' g r => by
  obtain ⟨a, vs, e, hs, r⟩ := r
  exact ⟨a, e, ⟨vs, same_t I'.sub hs⟩, q _ B' H' I' g (itok_tup hs r)⟩)
/-- lo, lo + 1, .. -/
def rngD (lo : Int) (n : Nat) : List D := (List.range n).map fun (i : Nat) => D.int (lo + (i : Int))
theorem itok_rng {K : PySem.W.Frag} {B : Hp} {lo : Int} {n : Nat} : ItOk K (Itr lo n) B (rngD lo n) := by
  have hl : (rngD lo n).length = n := by unfold rngD; rw [List.length_map, List.length_range]
  refine ⟨fun B' H' i s1 s2 hi => by rw [hl] at hi; exact hi, fun B' H' i s1 s2 hi => by rw [hl] at hi; exact Nat.le_of_eq hi, fun B' H' i d v H2 s1 s2 hd y => ?_⟩
  obtain ⟨e, y⟩ := y
  subst e
  unfold rngD at hd
  rw [List.getElem?_map] at hd
  obtain ⟨j, h1, h2⟩ := Option.map_eq_some_iff.mp hd
  have h3 := List.getElem?_eq_some_iff.mp h1
  obtain ⟨h4, h5⟩ := h3
  rw [List.getElem_range] at h5
  subst h5
  exact ⟨B', Grw.refl s2, by rw [← h2]; exact y⟩
variable {x1 x2 : Expr} {p : Pos} {i j : Int}
theorem ei_rng1 (hg : Gl X "range") (hm : X.mg "range" = none) (h : EvA X [x1] ρ [.int j] ρ1) (hj : -(2 ^ 62) ≤ j ∧ j < 2 ^ 62) (hs : starEach [x1] X.env = [(false, eval x1 X.env)] := by first | exact star_one rfl | rfl) : EvI X tg (.Call (.Name "range" p) [x1] [] pos) ρ (rngD 0 j.toNat) ρ1 := .mk fun σ B H R I q =>
  wI.of (pi_range1 hg hm pa_w hs) (h σ B H _ I fun vs B' H' I' g r => by
    obtain ⟨v, w, e, r1, r2⟩ := r
    exact ⟨j, by rw [e, show v = V.int j from r1, show w = [] from r2], hj.1, hj.2, q _ B' H' I' g itok_rng⟩)
theorem ei_rng2 (hg : Gl X "range") (hm : X.mg "range" = none) (h : EvA X [x1, x2] ρ [.int i, .int j] ρ1) (hj : -(2 ^ 62) ≤ i ∧ i < 2 ^ 62 ∧ -(2 ^ 62) ≤ j ∧ j < 2 ^ 62) (hs : starEach [x1, x2] X.env = [(false, eval x1 X.env), (false, eval x2 X.env)] := by first | exact star_two rfl rfl | rfl) (hs2 : starEach [x2] X.env = [(false, eval x2 X.env)] := by first | exact star_one rfl | rfl) :
    EvI X tg (.Call (.Name "range" p) [x1, x2] [] pos) ρ (rngD i (j - i).toNat) ρ1 := .mk fun σ B H R I q =>
  wI.of (pi_range2 hg hm pa_w hs hs2) (h σ B H _ I fun vs B' H' I' g r => by
    obtain ⟨v, w, e, r1, v2, w2, e2, r2, r3⟩ := r
    exact ⟨i, j, by rw [e, e2, show v = V.int i from r1, show v2 = V.int j from r2, show w2 = [] from r3], hj, q _ B' H' I' g itok_rng⟩)

/-! ### for -/
theorem x1_for (hi : EvI X tg iter ρ ds ρ1) (Iv : Nat → VE → Prop) (h0 : Iv 0 ρ1) (hs : ∀ (i : Nat) (d : D) (ρ' : VE), ds[i]? = some d → Iv i ρ' → XG X tg js d ρ' fun ρ2 => XS X body ρ2 { nx := Iv (i + 1), ct := Iv (i + 1), bk := κ.nx, rt := κ.rt }) (hd : ∀ ρ', Iv ds.length ρ' → κ.nx ρ')
    (hp : PassesOwn (model X.prog X.w) X.A X.env X.xe := by exact PassesOwn.never) (hc : X.calm = true := by rfl) (io : IoK ρ ρ1 := by first | exact IoK.refl _ | exact ioK_ok rfl) (hfs : ∀ x, foldedSetIterable iter X.env x = pure x := by intro _; rfl) : X1 X (.For tg iter body [] pos) ρ κ := .mk fun σ B H D I S => by
  refine wS.of (ps_for hp hc pi_w pg_w pss_w hfs) (hi σ B H _ I fun J B1 H1 I1 g1 J1 => ?_)
  refine ⟨fun i m σ' H' => m = ds.length - i ∧ i ≤ ds.length ∧ ∃ ρ' B', Iv i ρ' ∧ EnvOk X.K B' H' σ' ρ' ∧ GoS σ ρ B H σ' ρ' B' H' ∧ Same B1 B', ⟨ds.length, by omega, Nat.zero_le _, ρ1, B1, h0, I1, go_s g1 io, Same.refl B1⟩, ?_⟩
  rintro i m σ' H' ⟨rfl, hle, ρ', B', k, I', g', s'⟩
  by_cases hlt : i < ds.length
  · refine .inr ⟨J1.go B' H' i s' I'.sub hlt, fun σ2 H2 => ∃ ρ2 B2, Iv (i + 1) ρ2 ∧ EnvOk X.K B2 H2 σ2 ρ2 ∧ GoS σ ρ B H σ2 ρ2 B2 H2 ∧ Same B1 B2, fun σ2 H2 ⟨ρ2, B2, k2, I2, g2, s2⟩ => ⟨ds.length - (i + 1), by omega, rfl, hlt, ρ2, B2, k2, I2, g2, s2⟩, fun v H2 y => ?_⟩
    obtain ⟨B2, gr, rd⟩ := J1.yld B' H' i ds[i] v H2 s' I'.sub (List.getElem?_eq_getElem hlt) y
    have I2 := I'.grw gr
    have g2 : GoS σ' ρ' B' H' σ' ρ' B2 H2 := ⟨gr.go _, fun j h => ⟨h, rfl⟩⟩
    refine hs i ds[i] ρ' (List.getElem?_eq_getElem hlt) k σ' B2 H2 v _ I2 rd fun σ3 ρ3 B3 H3 x3 I3 g3 _ => ?_
    have g4 := (g'.trans g2).trans g3
    have s4 : Same B1 B3 := (s'.trans gr.bsub).trans g3.go.bsub
    refine x3 σ3 B3 H3 _ I3 ⟨fun σ4 ρ4 B4 H4 k4 I4 g5 => ⟨ρ4, B4, k4, I4, g4.trans g5, s4.trans g5.go.bsub⟩, fun σ4 ρ4 B4 H4 k4 I4 g5 => S.nx σ4 ρ4 B4 H4 k4 I4 (g4.trans g5), fun σ4 ρ4 B4 H4 k4 I4 g5 => ⟨ρ4, B4, k4, I4, g4.trans g5, s4.trans g5.go.bsub⟩,
      fun v r σ4 ρ4 B4 H4 k4 I4 g5 q => S.rt v r σ4 ρ4 B4 H4 k4 I4 (g4.trans g5) (q.back g4.go)⟩
  · have e : i = ds.length := by omega
    subst e
    exact .inl ⟨J1.stop B' H' _ s' I'.sub rfl, S.nx σ' ρ' B' H' (hd ρ' k) I' g'⟩
end
end DL

/-! DL4: comprehensions, while, what a def is. -/
namespace DL
open PySem PySem.Spec PyProof.Rows L2

/-! ### a comprehension's block -/
def wipeV (ρ : VE) : List Nat → VE
  | [] => ρ
  | v :: vs => (wipeV ρ vs).set v .un
/-- the block's names as they were ahead of it -/
def mergeV (ρ ρ4 : VE) : List Nat → VE
  | [] => ρ4
  | v :: vs => (mergeV ρ ρ4 vs).set v (ρ.getD v .un)
theorem wipeV_length (ρ : VE) : ∀ vs : List Nat, (wipeV ρ vs).length = ρ.length
  | [] => rfl
  | v :: vs => by unfold wipeV; rw [List.length_set, wipeV_length ρ vs]
theorem mergeV_length (ρ ρ4 : VE) : ∀ vs : List Nat, (mergeV ρ ρ4 vs).length = ρ4.length
  | [] => rfl
  | v :: vs => by unfold mergeV; rw [List.length_set, mergeV_length ρ ρ4 vs]
theorem wipeV_get {ρ : VE} {i : Nat} {r : Var} : ∀ {vs : List Nat}, (wipeV ρ vs)[i]? = some r → (i ∈ vs ∧ r = .un) ∨ (i ∉ vs ∧ ρ[i]? = some r)
  | [], h => .inr ⟨by simp, h⟩
  | v :: vs, h => by
    unfold wipeV at h
    by_cases e : i = v
    · subst e
      have hl := lt_of_get h
      rw [List.length_set] at hl
      rw [List.getElem?_set_self hl] at h
      cases h
      exact .inl ⟨List.mem_cons_self, rfl⟩
    · rw [List.getElem?_set_ne (Ne.symm e)] at h
      rcases wipeV_get h with ⟨h1, h2⟩ | ⟨h1, h2⟩
      · exact .inl ⟨List.mem_cons_of_mem _ h1, h2⟩
      · exact .inr ⟨by simp [e, h1], h2⟩
theorem mergeV_get {ρ ρ4 : VE} {i : Nat} {r : Var} (hl : ρ4.length = ρ.length) : ∀ {vs : List Nat}, (mergeV ρ ρ4 vs)[i]? = some r → (i ∈ vs ∧ ρ[i]? = some r) ∨ (i ∉ vs ∧ ρ4[i]? = some r)
  | [], h => .inr ⟨by simp, h⟩
  | v :: vs, h => by
    unfold mergeV at h
    by_cases e : i = v
    · subst e
      have hi := lt_of_get h
      rw [List.length_set] at hi
      rw [List.getElem?_set_self hi] at h
      rw [mergeV_length, hl] at hi
      rw [List.getD_eq_getElem?_getD, List.getElem?_eq_getElem hi] at h
      exact .inl ⟨List.mem_cons_self, by rw [List.getElem?_eq_getElem hi]; exact h⟩
    · rw [List.getElem?_set_ne (Ne.symm e)] at h
      rcases mergeV_get hl h with ⟨h1, h2⟩ | ⟨h1, h2⟩
      · exact .inl ⟨List.mem_cons_of_mem _ h1, h2⟩
      · exact .inr ⟨by simp [e, h1], h2⟩
theorem isOw_get {o : Option Var} (h : isOw o = true) : ∃ r, o = some r ∧ isOw (some r) = true := by
  cases o with
  | none => cases h
  | some r => exact ⟨r, rfl, h⟩
theorem wipe_not {σ : L2.St} {i : Nat} : ∀ {vs : List Nat}, i ∉ vs → (wipe σ vs)[i]? = σ[i]? := wipe_out
section
variable {K : PySem.W.Frag} {B H B' H' : Hp} {σ : L2.St} {ρ ρ4 : VE} {vs : List Nat}
theorem EnvOk.wipe (I : EnvOk K B H σ ρ) (vs : List Nat) : EnvOk K B H (L2.wipe σ vs) (wipeV ρ vs) := by
  refine ⟨I.sub, by rw [wipeV_length, wipe_length]; exact I.len, fun i r e => ?_, fun i j a hij h1 h2 e1 e2 => ?_⟩
  · rcases wipeV_get e with ⟨h1, h2⟩ | ⟨h1, h2⟩
    · subst h2; trivial
    · rw [wipe_not h1]; exact I.var i r h2
  · obtain ⟨r1, q1, w1⟩ := isOw_get h1
    obtain ⟨r2, q2, w2⟩ := isOw_get h2
    rcases wipeV_get q1 with ⟨_, z⟩ | ⟨n1, z1⟩
    · subst z; cases w1
    · rcases wipeV_get q2 with ⟨_, z⟩ | ⟨n2, z2⟩
      · subst z; cases w2
      · rw [wipe_not n1] at e1
        rw [wipe_not n2] at e2
        exact I.sep i j a hij (by rw [z1]; exact w1) (by rw [z2]; exact w2) e1 e2
theorem rt_wipe {a : Addr} (h : Rt (L2.wipe σ vs) (wipeV ρ vs) a) : ∃ i : Nat, i ∉ vs ∧ isOw ρ[i]? = true ∧ σ[i]? = some (some (.ref a)) := by
  obtain ⟨i, h1, h2⟩ := h
  obtain ⟨r, q, w⟩ := isOw_get h1
  rcases wipeV_get q with ⟨_, z⟩ | ⟨n, z⟩
  · subst z; cases w
  · rw [wipe_not n] at h2
    exact ⟨i, n, by rw [z]; exact w, h2⟩
/-- out of the block -/
theorem EnvOk.merge {σ4 : L2.St} (I : EnvOk K B H σ ρ) (I4 : EnvOk K B' H' σ4 ρ4) (g : Go (Rt (L2.wipe σ vs) (wipeV ρ vs)) B H (Rt σ4 ρ4) B' H') (off : Off vs (L2.wipe σ vs) σ4) :
    EnvOk K B' H' σ (mergeV ρ ρ4 vs) ∧ Go (Rt σ ρ) B H (Rt σ (mergeV ρ ρ4 vs)) B' H' := by
  have hl : ρ4.length = ρ.length := by rw [I4.len, off.1, wipe_length, I.len]
  have at4 : ∀ {i : Nat}, i ∉ vs → σ4[i]? = σ[i]? := fun n => (off.2 _ n).trans (wipe_not n)
  -- a root of a hidden name is none of the block's
  have hid : ∀ {i : Nat} {a : Addr}, i ∈ vs → isOw ρ[i]? = true → σ[i]? = some (some (.ref a)) → ¬ Rt (L2.wipe σ vs) (wipeV ρ vs) a := fun {i a} hm hw he z => by
    obtain ⟨j, n, w, e⟩ := rt_wipe z
    exact I.sep i j a (fun q => n (q ▸ hm)) hw w he e
  have keepV : ∀ {i : Nat} {r : Var}, i ∈ vs → ρ[i]? = some r → VarOk K B' H' r σ[i]? := fun {i r} hm e => by
    have q := I.var i r e
    cases r with
    | un => trivial
    | fz d => obtain ⟨v, e1, r⟩ := q; exact ⟨v, e1, r.mono g.bsub⟩
    | ow d =>
      obtain ⟨a, e1, o⟩ := q
      have nr := hid hm (by rw [e]; rfl) e1
      obtain ⟨ob, ho⟩ := o.some
      refine ⟨a, e1, o.mono g.bsub ?_ fun o h => g.keep a o h nr⟩
      cases z : B' a with
      | none => rfl
      | some u =>
        rcases g.new a u z with w | w | w
        · rw [o.none] at w; cases w
        · rw [ho] at w; cases w
        · exact (nr w).elim
    | io d =>
      obtain ⟨a, e1, o⟩ := q
      have nr := hid hm (by rw [e]; rfl) e1
      obtain ⟨ob, ho⟩ := o.some
      refine ⟨a, e1, o.mono g.bsub ?_ fun o h => g.keep a o h nr⟩
      cases z : B' a with
      | none => rfl
      | some u =>
        rcases g.new a u z with w | w | w
        · rw [o.none] at w; cases w
        · rw [ho] at w; cases w
        · exact (nr w).elim
  have wsub : ∀ a, Rt (L2.wipe σ vs) (wipeV ρ vs) a → Rt σ ρ a := fun a z => let ⟨i, _, w, e⟩ := rt_wipe z; ⟨i, w, e⟩
  refine ⟨⟨I4.sub, by rw [mergeV_length, hl]; exact I.len, fun i r e => ?_, fun i j a hij h1 h2 e1 e2 => ?_⟩, ⟨g.bsub, fun a o h n => g.keep a o h fun z => n (wsub a z), g.there, fun a o h => ?_, fun a h => ?_⟩⟩
  · rcases mergeV_get hl e with ⟨h1, h2⟩ | ⟨h1, h2⟩
    · exact keepV h1 h2
    · have q := I4.var i r h2
      rw [at4 h1] at q
      exact q
  · obtain ⟨r1, q1, w1⟩ := isOw_get h1
    obtain ⟨r2, q2, w2⟩ := isOw_get h2
    -- a hidden name's root is none of the block's end
    have hid2 : ∀ {i j : Nat} {r r' : Var}, i ∈ vs → ρ[i]? = some r → isOw (some r) = true → j ∉ vs → ρ4[j]? = some r' → isOw (some r') = true → σ[i]? = some (some (.ref a)) → σ[j]? = some (some (.ref a)) → False := fun {i j r r'} m1 g1 k1 m2 g2 k2 x1 x2 => by
      rcases g.roots a ⟨j, by rw [g2]; exact k2, (at4 m2).trans x2⟩ with z | z
      · exact hid m1 (by rw [g1]; exact k1) x1 z
      · obtain ⟨o, ho⟩ := I.rt ⟨i, by rw [g1]; exact k1, x1⟩
        rw [z] at ho; cases ho
    rcases mergeV_get hl q1 with ⟨n1, z1⟩ | ⟨n1, z1⟩ <;> rcases mergeV_get hl q2 with ⟨n2, z2⟩ | ⟨n2, z2⟩
    · exact I.sep i j a hij (by rw [z1]; exact w1) (by rw [z2]; exact w2) e1 e2
    · exact hid2 n1 z1 w1 n2 z2 w2 e1 e2
    · exact hid2 n2 z2 w2 n1 z1 w1 e2 e1
    · exact I4.sep i j a hij (by rw [z1]; exact w1) (by rw [z2]; exact w2) ((at4 n1).trans e1) ((at4 n2).trans e2)
  · rcases g.new a o h with z | z | z
    · exact .inl z
    · exact .inr (.inl z)
    · exact .inr (.inr (wsub a z))
  · obtain ⟨i, h1, h2⟩ := h
    obtain ⟨r, q, w⟩ := isOw_get h1
    rcases mergeV_get hl q with ⟨n, z⟩ | ⟨n, z⟩
    · exact .inl ⟨i, by rw [z]; exact w, h2⟩
    · rcases g.roots a ⟨i, by rw [z]; exact w, (at4 n).trans h2⟩ with z | z
      · exact .inl (wsub a z)
      · exact .inr z
theorem wipe_eq {σ2 : L2.St} (off : Off vs (L2.wipe σ vs) σ2) : L2.wipe σ2 vs = L2.wipe σ vs := by
  have key : ∀ (τ : L2.St) (ws : List Nat) (i : Nat), i ∈ ws → (L2.wipe τ ws)[i]? = if i < τ.length then some none else none := by
    intro τ ws
    induction ws with
    | nil => intro i h; cases h
    | cons w ws ih =>
      intro i h
      unfold L2.wipe
      by_cases e : i = w
      · subst e
        by_cases hl : i < τ.length
        · rw [List.getElem?_set_self (by rw [wipe_length]; exact hl), if_pos hl]
        · rw [List.getElem?_eq_none (by rw [List.length_set, wipe_length]; omega), if_neg hl]
      · rw [List.getElem?_set_ne (Ne.symm e)]
        exact ih i ((List.mem_cons.mp h).resolve_left e)
  refine List.ext_getElem? fun i => ?_
  by_cases h : i ∈ vs
  · rw [key _ _ i h, key _ _ i h, off.1, wipe_length]
  · rw [wipe_not h, wipe_not h, off.2 i h, wipe_not h]
end

/-! ### the block's parts, whatever block it is -/
structure EvTs (X : Cx) (ifs : List Expr) (ρ : VE) (b : Bool) (ρ' : VE) : Prop where
  run : ∀ (σ : L2.St) (B H : Hp) (Q : Bool → Hp → Prop), EnvOk X.K B H σ ρ →
  (∀ B' H', EnvOk X.K B' H' σ ρ' → Go (Rt σ ρ) B H (Rt σ ρ') B' H' → Q b H') → ∀ (pins : List (Addr × Obj)) (s : Shared), Inv X pins σ H s →
  wpAny (model X.prog X.w) X.A (forIn ifs true fun c r => if r = true then do let ok ← isTrue c X.env (eval c X.env); pure (ForInStep.yield ok) else pure (ForInStep.yield r)) (TP X pins σ Q) X.xe s
instance {X : Cx} {ifs : List Expr} {ρ : VE} {b : Bool} {ρ' : VE} : CoeFun (EvTs X ifs ρ b ρ') fun _ => ∀ (σ : L2.St) (B H : Hp) (Q : Bool → Hp → Prop), EnvOk X.K B H σ ρ →
  (∀ B' H', EnvOk X.K B' H' σ ρ' → Go (Rt σ ρ) B H (Rt σ ρ') B' H' → Q b H') → ∀ (pins : List (Addr × Obj)) (s : Shared), Inv X pins σ H s →
  wpAny (model X.prog X.w) X.A (forIn ifs true fun c r => if r = true then do let ok ← isTrue c X.env (eval c X.env); pure (ForInStep.yield ok) else pure (ForInStep.yield r)) (TP X pins σ Q) X.xe s := ⟨EvTs.run⟩
theorem ets_nil {X : Cx} {ρ : VE} : EvTs X [] ρ true ρ := .mk fun σ B H Q I q pins s II => (pts_nil (X := X)).run pins s σ H Q II (q B H I (Go.refl _ _ _))
theorem ets_one {X : Cx} {ρ ρ' : VE} {c : Expr} {b : Bool} (h : EvT X c ρ b ρ') : EvTs X [c] ρ b ρ' := .mk fun σ B H Q I q pins s II => (pts_one pt_w).run pins s σ H Q II (h σ B H Q I q)
section
variable (X : Cx) (scope : Scope)
def bkE (e : Expr) : TE := fun σ H Q => ∀ (s : Shared) (H0 : Hp) (C : Addr) (cl : List (Str × Addr)) (fp : List Addr), wE (X.blk s H0 scope (compEnvC scope cl C X.env) fp) e σ H Q
def bkG (tg : Expr) : TG := fun v σ H Q => ∀ (s : Shared) (H0 : Hp) (C : Addr) (cl : List (Str × Addr)) (fp : List Addr), wG (X.blk s H0 scope (compEnvC scope cl C X.env) fp) tg v σ H Q
def bkT (ifs : List Expr) : TT := fun σ H Q => ∀ (s0 : Shared) (H0 : Hp) (C : Addr) (cl : List (Str × Addr)) (fp : List Addr) (pins : List (Addr × Obj)) (s : Shared), Inv (X.blk s0 H0 scope (compEnvC scope cl C X.env) fp) pins σ H s →
  wpAny (model X.prog X.w) X.A (forIn ifs true fun c r => if r = true then do let ok ← isTrue c (compEnvC scope cl C X.env) (eval c (compEnvC scope cl C X.env)); pure (ForInStep.yield ok) else pure (ForInStep.yield r)) (TP (X.blk s0 H0 scope (compEnvC scope cl C X.env) fp) pins σ Q) (fun _ _ => False) s
/-- in every block of this comprehension -/
def InB (P : Cx → Prop) : Prop := ∀ (s : Shared) (H0 : Hp) (C : Addr) (cl : List (Str × Addr)) (fp : List Addr), P (X.blk s H0 scope (compEnvC scope cl C X.env) fp)
end
section
variable {X : Cx} {elt tg iter : Expr} {ifs : List Expr} {scope : Scope} {own : List (Str × Nat)} {pos : Pos} {ρ ρ1 ρf : VE} {ds df : List D} {js : List Nat}
/-- what a turn of the block makes: the variables in it behind the target's store, whether it is kept, the item, the variables behind it -/
def LcTurn (X : Cx) (elt tg : Expr) (ifs : List Expr) (scope : Scope) (vs js : List Nat) (d : D) (ρ' : VE) (out : List D) (K : VE → List D → Prop) : Prop :=
  ∃ ρ2 b ρ3, InB X scope (fun Y => XG Y tg js d (wipeV ρ' vs) (· = ρ2)) ∧ InB X scope (fun Y => EvTs Y ifs ρ2 b ρ3) ∧
    (b = true → ∃ y ρ4, InB X scope (fun Y => EvD Y elt ρ3 (.fz y) ρ4) ∧ K (mergeV ρ' ρ4 vs) (out ++ [y])) ∧ (b = false → K (mergeV ρ' ρ3 vs) out)
/-- an owned list, apart from the variables -/
structure LAt (K : PySem.W.Frag) (B H : Hp) (W : Addr → Prop) (l : Addr) (out : List D) : Prop where
  free : B l = none
  at_ : ∃ vs, H l = some (.lst vs) ∧ RepL K B out vs
  apart : ¬ W l
theorem lc_read {σ : L2.St} {B H : Hp} {Q : VK} {vs : List Nat} (hi : EvI X tg iter ρ ds ρ1) (Iv : Nat → VE → List D → Prop) (h0 : Iv 0 ρ1 []) (hjs : ∀ j, j ∈ js → j ∈ vs)
    (hs : ∀ (i : Nat) (d : D) (ρ' : VE) (out : List D), ds[i]? = some d → Iv i ρ' out → LcTurn X elt tg ifs scope vs js d ρ' out (Iv (i + 1))) (hd : ∀ ρ' out, Iv ds.length ρ' out → ρ' = ρf ∧ out = df) (hz : ds.length < sizeLine)
    (hlen : ∀ i ρ' out, Iv i ρ' out → out.length ≤ i)
    (I : EnvOk X.K B H σ ρ) (q : ∀ v B' H', EnvOk X.K B' H' σ ρf → Go (Rt σ ρ) B H (Rt σ ρf) B' H' → ResOk X.K H (Rt σ ρf) B' H' (.ow (.lst df)) v → Q v H') :
    tLc (wI X tg iter) (bkG X scope tg) (bkT X scope ifs) (bkE X scope elt) vs σ H Q := by
  refine hi σ B H _ I fun J B1 H1 I1 g1 J1 => fun l hl => ?_
  refine ⟨fun i m H' => m = ds.length - i ∧ i ≤ ds.length ∧ ∃ ρ' B' out, Iv i ρ' out ∧ EnvOk X.K B' H' σ ρ' ∧ Go (Rt σ ρ) B H (Rt σ ρ') B' H' ∧ Same B1 B' ∧ LAt X.K B' H' (Rt σ ρ') l out, ⟨ds.length, by omega, Nat.zero_le _, ρ1, B1, [], h0, ?_, ?_, Same.refl B1, ?_⟩, ?_⟩
  · exact I1.grw (Grw.own I1.sub hl)
  · exact g1.trans ((Grw.own I1.sub hl).go _)
  · refine ⟨I1.sub.free hl, ⟨[], upd_same, rfl⟩, fun z => ?_⟩
    obtain ⟨o, ho⟩ := I1.rt z
    rw [hl] at ho; cases ho
  rintro i m H' ⟨rfl, hle, ρ', B', out, k, I', g', s', L⟩
  by_cases hlt : i < ds.length
  · refine .inr ⟨J1.go B' H' i s' I'.sub hlt, fun H2 => ∃ ρ2 B2 out2, Iv (i + 1) ρ2 out2 ∧ EnvOk X.K B2 H2 σ ρ2 ∧ Go (Rt σ ρ) B H (Rt σ ρ2) B2 H2 ∧ Same B1 B2 ∧ LAt X.K B2 H2 (Rt σ ρ2) l out2, fun H2 ⟨ρ2, B2, out2, k2, I2, g2, s2, L2⟩ => ⟨ds.length - (i + 1), by omega, rfl, hlt, ρ2, B2, out2, k2, I2, g2, s2, L2⟩, fun v H2 y => ?_⟩
    obtain ⟨B2, gr, rd⟩ := J1.yld B' H' i ds[i] v H2 s' I'.sub (List.getElem?_eq_getElem hlt) y
    have I2 := I'.grw gr
    obtain ⟨ρ2, b, ρ3, tG, tT, tE, tN⟩ := hs i ds[i] ρ' out (List.getElem?_eq_getElem hlt) k
    -- the list stays as it is while the block runs
    have stay : ∀ {σ4 : L2.St} {ρ4 : VE} {B4 H4 : Hp}, EnvOk X.K B4 H4 σ4 ρ4 → Go (Rt (L2.wipe σ vs) (wipeV ρ' vs)) B2 H2 (Rt σ4 ρ4) B4 H4 → Off vs (L2.wipe σ vs) σ4 → EnvOk X.K B4 H4 σ (mergeV ρ' ρ4 vs) ∧ Go (Rt σ ρ) B H (Rt σ (mergeV ρ' ρ4 vs)) B4 H4 ∧ Same B1 B4 ∧ LAt X.K B4 H4 (Rt σ (mergeV ρ' ρ4 vs)) l out := fun {σ4 ρ4 B4 H4} I4 g4 off => by
      obtain ⟨I5, g5⟩ := I2.merge I4 g4 off
      obtain ⟨ls, hls, rls⟩ := L.at_
      have hl2 : H2 l = some (.lst ls) := gr.hsub _ _ hls
      have ap2 : ¬ Rt (L2.wipe σ vs) (wipeV ρ' vs) l := fun z => let ⟨i, _, w, e⟩ := rt_wipe z; L.apart ⟨i, w, e⟩
      refine ⟨I5, (g'.trans (gr.go _)).trans g5, (s'.trans gr.bsub).trans g4.bsub, ⟨?_, ⟨ls, g4.keep _ _ hl2 ap2, rls.mono (gr.bsub.trans g4.bsub)⟩, fun z => ?_⟩⟩
      · cases e : B4 l with
        | none => rfl
        | some u =>
          rcases g4.new l u e with z | z | z
          · rcases gr.new l u z with z | z
            · rw [L.free] at z; cases z
            · rw [hls] at z; cases z
          · rw [hl2] at z; cases z
          · exact (ap2 z).elim
      · rcases g5.roots l z with z | z
        · exact L.apart z
        · rw [hl2] at z; cases z
    refine fun s0 H0 C cl fp => tG s0 H0 C cl fp (L2.wipe σ vs) B2 H2 v _ (I2.wipe vs) rd fun σ3 ρ3' B3 H3 e3 I3 g3 off => ?_
    subst e3
    have off' : Off vs (L2.wipe σ vs) σ3 := ⟨off.1, fun j hj => off.2 j fun z => hj (hjs j z)⟩
    refine ⟨wipe_eq off', fun s0 H0 C cl fp pins s => tT s0 H0 C cl fp σ3 B3 H3 _ I3 (fun B4 H4 I4 g4 => ?_) pins s⟩
    have gT := g3.go.trans g4
    cases b with
    | true =>
      obtain ⟨yv, ρ4, tE, kE⟩ := tE rfl
      refine iteT fun s0 H0 C cl fp => tE s0 H0 C cl fp σ3 B4 H4 _ I4 fun u B5 H5 I5 g5 r5 => ?_
      obtain ⟨J5, G5, S5, L5⟩ := stay I5 (gT.trans g5) off'
      obtain ⟨ls, hls, rls⟩ := L5.at_
      have hlo := hlen i ρ' out k
      have hll := rls.length
      refine ⟨ls, hls, by omega, mergeV ρ' ρ4 vs, B5, out ++ [yv], kE, ?_⟩
      have fr : B5 l = none := L5.free
      have sb : Same B5 (upd H5 l (.lst (ls ++ [u]))) := fun b x e => by
        rw [upd_ne (ne_of_none e fr)]
        exact J5.sub _ _ e
      refine ⟨⟨sb, J5.len, fun j r e => ?_, J5.sep⟩, ⟨G5.bsub, fun a o h n => ?_, fun a o h => ?_, G5.new, G5.roots⟩, S5, ⟨fr, ⟨_, upd_same, rls.append (RepL.one r5)⟩, L5.apart⟩⟩
      · have qv := J5.var j r e
        have st : ∀ {a : Addr}, Rt σ (mergeV ρ' ρ4 vs) a → ∀ o, H5 a = some o → upd H5 l (.lst (ls ++ [u])) a = some o := fun {a} w o h => by
          rw [upd_ne (show a ≠ l from fun z => L5.apart (by rw [← z]; exact w))]
          exact h
        cases r with
        | un => trivial
        | fz d => exact qv
        | ow d => obtain ⟨a, e1, o⟩ := qv; exact ⟨a, e1, o.mono (Same.refl _) o.none (st ⟨j, by rw [e]; rfl, e1⟩)⟩
        | io d => obtain ⟨a, e1, o⟩ := qv; exact ⟨a, e1, o.mono (Same.refl _) o.none (st ⟨j, by rw [e]; rfl, e1⟩)⟩
      · have ne : a ≠ l := fun z => by
          have z2 := g1.free hl
          rw [← z, h] at z2
          cases z2
        rw [upd_ne ne]
        exact G5.keep a o h n
      · by_cases z : a = l
        · subst z; exact ⟨_, upd_same⟩
        · obtain ⟨o', h'⟩ := G5.there a o h
          exact ⟨o', by rw [upd_ne z]; exact h'⟩
    | false =>
      refine iteF ?_
      obtain ⟨J5, G5, S5, L5⟩ := stay I4 gT off'
      exact ⟨mergeV ρ' ρ3 vs, B4, out, tN rfl, J5, G5, S5, L5⟩
  · have e : i = ds.length := by omega
    subst e
    obtain ⟨e1, e2⟩ := hd ρ' out k
    subst e1 e2
    refine .inl ⟨J1.stop B' H' _ s' I'.sub rfl, q (.ref l) B' H' I' g' ⟨l, rfl, ⟨L.free, L.at_⟩, L.apart, g1.free hl⟩⟩

theorem ev_lc (hc : X.calm = true) (hN : X.N.Nodup) (hi : EvI X tg iter ρ ds ρ1) (ok : BlkOk X.N X.env.scope scope own) (Iv : Nat → VE → List D → Prop) (h0 : Iv 0 ρ1 []) (hjs : ∀ j, j ∈ js → j ∈ own.map (·.2))
    (hs : ∀ (i : Nat) (d : D) (ρ' : VE) (out : List D), ds[i]? = some d → Iv i ρ' out → LcTurn X elt tg ifs scope (own.map (·.2)) js d ρ' out (Iv (i + 1))) (hd : ∀ ρ' out, Iv ds.length ρ' out → ρ' = ρf ∧ out = df) (hz : ds.length < sizeLine)
    (hlen : ∀ i ρ' out, Iv i ρ' out → out.length ≤ i) (hfs : ∀ x, foldedSetIterable iter X.env x = pure x := by intro _; rfl) : EvD X (.ListComp elt [⟨tg, iter, ifs, 0⟩] scope pos) ρ (.ow (.lst df)) ρf := .mk fun σ B H Q I q =>
  wE.of (pe_lc hc hN pi_w ok (fun s H C cl fp => ⟨fun pins s' σ H v u Q I r h => h s _ C cl fp pins s' u I r⟩) (fun s H C cl fp => ⟨fun pins s' σ H Q I h => h s _ C cl fp pins s' I⟩) (fun s H C cl fp => ⟨fun pins s' σ H Q I h => h s _ C cl fp pins s' I⟩) hfs)
    (lc_read hi Iv h0 hjs hs hd hz hlen I q)
end
end DL

/-! DL5: owned variables, lists that change, while, defs and their calls. -/
namespace DL
open PySem PySem.Spec PyProof.Rows L2

section
variable {X : Cx} {e : Expr} {es : List Expr} {st : Stmt} {sts : List Stmt} {ρ ρ1 ρ2 ρ' : VE} {d y : D} {r : Var} {κ : KS} {pos : Pos}

/-! ### freezing -/
/-- an owned variable's object joins the base -/
theorem EnvOk.frz {K : PySem.W.Frag} {B H : Hp} {σ : L2.St} {i : Nat} (I : EnvOk K B H σ ρ) (hi : ρ[i]? = some (.ow d)) : ∃ a B', σ[i]? = some (some (.ref a)) ∧ EnvOk K B' H σ (ρ.set i (.fz d)) ∧ Go (Rt σ ρ) B H (Rt σ (ρ.set i (.fz d))) B' H ∧ Rep K B' d (.ref a) := by
  obtain ⟨a, e1, o⟩ := I.var i _ hi
  obtain ⟨ob, ho, rep⟩ := o.freeze
  have s := same_upd (B := B) (o := ob) o.none
  have hil := lt_of_get hi
  have notOw : ∀ {j : Nat}, isOw (ρ.set i (.fz d))[j]? = true → j ≠ i ∧ isOw ρ[j]? = true := fun {j} h => by
    rcases isOw_set h with ⟨_, z⟩ | z
    · cases z
    · exact z
  have ne : ∀ {j : Nat} {b : Addr}, j ≠ i → isOw ρ[j]? = true → σ[j]? = some (some (.ref b)) → b ≠ a := fun {j b} hj w e z => I.sep j i a hj w (by rw [hi]; rfl) (by rw [← z]; exact e) e1
  refine ⟨a, upd B a ob, e1, ⟨freeze_grw I.sub o.none ho, by rw [List.length_set]; exact I.len, fun j r e => ?_, fun j k b hjk h1 h2 => I.sep j k b hjk (notOw h1).2 (notOw h2).2⟩, ⟨s, fun _ _ h _ => h, fun _ o h => ⟨o, h⟩, fun b x e => ?_, fun b h => ?_⟩, rep⟩
  · by_cases hj : j = i
    · subst hj
      rw [List.getElem?_set_self hil] at e
      cases e
      exact ⟨.ref a, e1, rep⟩
    · rw [List.getElem?_set_ne (Ne.symm hj)] at e
      have q := I.var j r e
      cases r with
      | un => trivial
      | fz d => obtain ⟨v, e1, r⟩ := q; exact ⟨v, e1, r.mono s⟩
      | ow d => obtain ⟨b, e2, o2⟩ := q; exact ⟨b, e2, o2.mono s (by rw [upd_ne (ne hj (by rw [e]; rfl) e2)]; exact o2.none) fun _ z => z⟩
      | io d => obtain ⟨b, e2, o2⟩ := q; exact ⟨b, e2, o2.mono s (by rw [upd_ne (ne hj (by rw [e]; rfl) e2)]; exact o2.none) fun _ z => z⟩
  · by_cases hb : b = a
    · subst hb; exact .inr (.inr ⟨i, by rw [hi]; rfl, e1⟩)
    · rw [upd_ne hb] at e; exact .inl e
  · obtain ⟨j, h1, h2⟩ := h
    exact .inl ⟨j, (notOw h1).2, h2⟩
theorem ioK_set {i : Nat} {s : Var} (hi : isIo ρ[i]? = false) : IoK ρ (ρ.set i s) := fun j h => by
  have hj : j ≠ i := fun z => by rw [z, hi] at h; cases h
  rw [List.getElem?_set_ne (Ne.symm hj)]
  exact h
/-- a name that is given away -/
theorem ev_varF {i : Nat} {nm : Str} (hr : ρ[i]? = some (.ow d)) (hN : X.N[i]? = some nm) (hv : Vis X.env.scope nm := by first | exact Or.inl rfl | exact Or.inr (Or.inl rfl) | exact Or.inr (Or.inr rfl)) (hd : (nm == ("__debug__" : Str)) = false := by decide) (hcd : (nm == ("__classdict__" : Str)) = false := by decide) :
    EvD X (.Name nm pos) ρ (.fz d) (ρ.set i (.fz d)) := .mk fun σ B H Q I q => by
  obtain ⟨a, B', e1, I', g, rep⟩ := I.frz hr
  exact wE.of (pe_var hN hv hd hcd) ⟨.ref a, e1, q _ B' H I' g rep⟩
/-- a variable is frozen between two statements -/
theorem xs_frz (i : Nat) (hr : ρ[i]? = some (.ow d)) (h : XS X sts (ρ.set i (.fz d)) κ) : XS X sts ρ κ := .mk fun σ B H D I S => by
  obtain ⟨a, B', e1, I', g, rep⟩ := I.frz hr
  exact h σ B' H D I' (S.go (go_s g (ioK_set (by rw [hr]; rfl))))
/-- return x, x an owned name -/
theorem x1_retMv (i : Nat) {nm : Str} {pos' : Pos} (hr : ρ[i]? = some (.ow d)) (hN : X.N[i]? = some nm) (k : κ.rt (.ow d) (ρ.set i .un)) (hv : Vis X.env.scope nm := by first | exact Or.inl rfl | exact Or.inr (Or.inl rfl) | exact Or.inr (Or.inr rfl)) (hd : (nm == ("__debug__" : Str)) = false := by decide) (hcd : (nm == ("__classdict__" : Str)) = false := by decide) :
    X1 X (.Return (some (.Name nm pos')) pos) ρ κ := .mk fun σ B H D I S => by
  obtain ⟨a, e1, o⟩ := I.var i _ hr
  refine wS.of (ps_ret (pe_var hN hv hd hcd)) ⟨.ref a, e1, ?_⟩
  have notOw : ∀ {j : Nat}, isOw (ρ.set i .un)[j]? = true → j ≠ i ∧ isOw ρ[j]? = true := fun {j} h => by
    rcases isOw_set h with ⟨_, z⟩ | z
    · cases z
    · exact z
  have I2 : EnvOk X.K B H σ (ρ.set i .un) := ⟨I.sub, by rw [List.length_set]; exact I.len, fun j r e => by
      by_cases hj : j = i
      · subst hj
        rw [List.getElem?_set_self (lt_of_get hr)] at e
        cases e
        trivial
      · rw [List.getElem?_set_ne (Ne.symm hj)] at e
        exact I.var j r e, fun j k b hjk h1 h2 => I.sep j k b hjk (notOw h1).2 (notOw h2).2⟩
  refine S.rt (.ref a) (.ow d) σ (ρ.set i .un) B H k I2 ⟨⟨Same.refl B, fun _ _ h _ => h, fun _ o h => ⟨o, h⟩, fun _ _ h => .inl h, fun b ⟨j, h1, h2⟩ => .inl ⟨j, (notOw h1).2, h2⟩⟩, fun j h => ⟨ioK_set (by rw [hr]; rfl) j h, rfl⟩⟩ ⟨a, rfl, o, fun ⟨j, h1, h2⟩ => ?_, .inr ⟨i, by rw [hr]; rfl, e1⟩⟩
  exact I.sep j i a (notOw h1).1 (notOw h1).2 (by rw [hr]; rfl) h2 e1

/-! ### looking at owned variables: as if they were frozen, where what is seen is immutable -/
def frzV : Var → Var
  | .ow d => .fz d
  | .io d => .fz d
  | v => v
def frzA (ρ : VE) : VE := ρ.map frzV
theorem frzA_ow {i : Nat} : isOw (frzA ρ)[i]? = false := by
  unfold frzA
  rw [List.getElem?_map]
  cases ρ[i]? with
  | none => rfl
  | some r => cases r <;> rfl
mutual
theorem rep_imm {K : PySem.W.Frag} {B B2 : Hp} (k : ∀ a vs, Rd B2 a (.tup vs) → Rd B a (.tup vs)) : ∀ {d : D} {v : V}, d.imm = true → Rep K B2 d v → Rep K B d v
  | .non, _, _, h => h
  | .bl _, _, _, h => h
  | .int _, _, _, h => h
  | .str _, _, _, h => h
  | .raw _, _, _, h => h
  | .tup l, _, p, ⟨a, vs, h1, h2, h3⟩ => ⟨a, vs, h1, h2.elim (fun z => .inl (k a vs z)) .inr, repL_imm k (show D.immL l = true from p) h3⟩
  | .lst _, _, p, _ => by cases p
  | .dz _ _, _, p, _ => by cases p
  | .seq _, _, p, _ => by cases p
  | .dk _ _, _, p, _ => by cases p
  | .dt _ _, _, p, _ => by cases p
  | .ins _ _ _, _, p, _ => by cases p
theorem repL_imm {K : PySem.W.Frag} {B B2 : Hp} (k : ∀ a vs, Rd B2 a (.tup vs) → Rd B a (.tup vs)) : ∀ {ds : List D} {vs : List V}, D.immL ds = true → RepL K B2 ds vs → RepL K B ds vs
  | [], _, _, h => h
  | d :: ds, _, p, ⟨v, r, h1, h2, h3⟩ => by
    have p' : (d.imm && D.immL ds) = true := p
    rw [Bool.and_eq_true] at p'
    exact ⟨v, r, h1, rep_imm k p'.1 h2, repL_imm k p'.2 h3⟩
end
theorem own_kind {K : PySem.W.Frag} {B H : Hp} : ∀ {d : D} {a : Addr}, Own K B H d a → ∀ vs, H a ≠ some (.tup vs) ∧ ∀ o, H a ≠ some (.frz o (.tup vs))
  | .lst _, _, ⟨_, _, h, _⟩, vs => ⟨(fun z => by rw [h] at z; cases z), fun o z => by rw [h] at z; cases z⟩
  | .dk _ _, _, ⟨_, _, h, _⟩, vs => ⟨(fun z => by rw [h] at z; cases z), fun o z => by rw [h] at z; cases z⟩
  | .dt _ _, _, ⟨_, _, h, _⟩, vs => ⟨(fun z => by rw [h] at z; cases z), fun o z => by rw [h] at z; cases z⟩
  | .ins _ _ _, _, ⟨_, _, _, h, _⟩, vs => ⟨(fun z => by rw [h] at z; cases z), fun o z => by rw [h] at z; cases z⟩
  | .non, _, h, _ => h.elim
  | .bl _, _, h, _ => h.elim
  | .int _, _, h, _ => h.elim
  | .str _, _, h, _ => h.elim
  | .tup _, _, h, _ => h.elim
  | .seq _, _, h, _ => h.elim
  | .raw _, _, h, _ => h.elim
  | .dz _ _, _, h, _ => h.elim
open Classical in
theorem peek_core {K : PySem.W.Frag} {B H : Hp} {σ : L2.St} (I : EnvOk K B H σ ρ) : ∃ B2, EnvOk K B2 H σ (frzA ρ) ∧ ∀ B3 H3, EnvOk K B3 H3 σ (frzA ρ) → Go (Rt σ (frzA ρ)) B2 H (Rt σ (frzA ρ)) B3 H3 →
    ∃ B4, EnvOk K B4 H3 σ ρ ∧ Go (Rt σ ρ) B H (Rt σ ρ) B4 H3 ∧ ∀ d v, d.imm = true → Rep K B3 d v → Rep K B4 d v := by
  have rootB : ∀ {a : Addr}, Rt σ ρ a → B a = none := fun {a} ⟨i, h1, h2⟩ => by
    obtain ⟨r, q, w⟩ := isOw_get h1
    have z := I.var i r q
    cases r with
    | un => cases w
    | fz d => cases w
    | ow d => obtain ⟨b, e1, o⟩ := z; rw [h2] at e1; cases e1; exact o.none
    | io d => obtain ⟨b, e1, o⟩ := z; rw [h2] at e1; cases e1; exact o.none
  let B2 : Hp := fun a => if Rt σ ρ a then H a else B a
  have b2r : ∀ {a : Addr}, Rt σ ρ a → B2 a = H a := fun {a} h => if_pos h
  have b2n : ∀ {a : Addr}, ¬ Rt σ ρ a → B2 a = B a := fun {a} h => if_neg h
  have sB : Same B B2 := fun a o h => by
    rw [b2n fun z => by rw [rootB z] at h; cases h]
    exact h
  have sH : Same B2 H := fun a o h => by
    by_cases z : Rt σ ρ a
    · rw [b2r z] at h; exact h
    · rw [b2n z] at h; exact I.sub _ _ h
  have noRt : ∀ a, ¬ Rt σ (frzA ρ) a := fun a ⟨i, h1, _⟩ => by rw [frzA_ow] at h1; cases h1
  refine ⟨B2, ⟨sH, by unfold frzA; rw [List.length_map]; exact I.len, fun i r e => ?_, fun i j a hij h1 => by rw [frzA_ow] at h1; cases h1⟩, fun B3 H3 I3 g3 => ?_⟩
  · unfold frzA at e
    rw [List.getElem?_map] at e
    obtain ⟨r0, q, w⟩ := Option.map_eq_some_iff.mp e
    have z := I.var i r0 q
    have thaw : ∀ {d : D} {a : Addr}, Own K B H d a → Rt σ ρ a → Rep K B2 d (.ref a) := fun {d a} o h => by
      obtain ⟨ob, ho, rep⟩ := o.freeze
      refine rep.mono fun b x e => ?_
      by_cases hb : b = a
      · subst hb; rw [upd_same] at e; cases e; rw [b2r h]; exact ho
      · rw [upd_ne hb] at e; exact sB _ _ e
    cases r0 with
    | un => subst w; trivial
    | fz d => subst w; obtain ⟨v, e1, r⟩ := z; exact ⟨v, e1, r.mono sB⟩
    | ow d => subst w; obtain ⟨a, e1, o⟩ := z; exact ⟨.ref a, e1, thaw o ⟨i, by rw [q]; rfl, e1⟩⟩
    | io d => subst w; obtain ⟨a, e1, o⟩ := z; exact ⟨.ref a, e1, thaw o ⟨i, by rw [q]; rfl, e1⟩⟩
  · have keepH : ∀ a o, H a = some o → H3 a = some o := fun a o h => g3.keep a o h (noRt a)
    let B4 : Hp := fun a => if B a = none ∧ H a ≠ none then none else B3 a
    have b4 : ∀ {a : Addr} {o : HO}, B a = none → H a = some o → B4 a = none := fun {a o} h1 h2 => if_pos ⟨h1, by rw [h2]; simp⟩
    have b4o : ∀ {a : Addr} {o : HO}, B4 a = some o → B3 a = some o := fun {a o} h => by
      by_cases z : B a = none ∧ H a ≠ none
      · rw [show B4 a = none from if_pos z] at h; cases h
      · rw [show B4 a = B3 a from if_neg z] at h; exact h
    have sB4 : Same B B4 := fun a o h => by
      have z : ¬ (B a = none ∧ H a ≠ none) := fun z => by rw [z.1] at h; cases h
      rw [show B4 a = B3 a from if_neg z]
      exact g3.bsub _ _ (sB _ _ h)
    refine ⟨B4, ⟨fun a o h => I3.sub _ _ (b4o h), I.len, fun i r e => ?_, I.sep⟩, ⟨sB4, fun a o h _ => keepH a o h, fun a o h => ⟨o, keepH a o h⟩, fun a o h => ?_, fun a h => .inl h⟩, fun d v hd rep => rep_imm (fun a vs rd => ?_) hd rep⟩
    · have z := I.var i r e
      cases r with
      | un => trivial
      | fz d => obtain ⟨v, e1, r⟩ := z; exact ⟨v, e1, r.mono sB4⟩
      | ow d => obtain ⟨a, e1, o⟩ := z; obtain ⟨ob, ho⟩ := o.some; exact ⟨a, e1, o.mono sB4 (b4 o.none ho) fun o h => keepH a o h⟩
      | io d => obtain ⟨a, e1, o⟩ := z; obtain ⟨ob, ho⟩ := o.some; exact ⟨a, e1, o.mono sB4 (b4 o.none ho) fun o h => keepH a o h⟩
    · cases hb : B a with
      | some x => exact .inl (by rw [sB4 a x hb] at h; exact h)
      | none =>
        cases hh : H a with
        | none => exact .inr (.inl rfl)
        | some x => rw [b4 hb hh] at h; cases h
    · -- a tuple of the base behind: it is not one of the roots
      have key : ∀ u, B3 a = some u → (u = .tup vs ∨ ∃ o, u = .frz o (.tup vs)) → B4 a = some u := fun u h hu => by
        by_cases z : B a = none ∧ H a ≠ none
        · exfalso
          cases hh : H a with
          | none => exact z.2 hh
          | some x =>
            have hx : H3 a = some x := keepH a x hh
            have e3 := I3.sub _ _ h
            rw [hx] at e3
            cases e3
            rcases g3.new a _ h with w | w | w
            · by_cases rt : Rt σ ρ a
              · obtain ⟨i, h1, h2⟩ := rt
                obtain ⟨r, q, w'⟩ := isOw_get h1
                have zz := I.var i r q
                have fin : ∀ {d : D} {b : Addr}, σ[i]? = some (some (.ref b)) → Own K B H d b → False := fun {d b} e1 o => by
                  rw [h2] at e1
                  cases e1
                  have ok := own_kind o vs
                  rcases hu with e | ⟨ob, e⟩
                  · exact ok.1 (by rw [hh, e])
                  · exact ok.2 ob (by rw [hh, e])
                cases r with
                | un => cases w'
                | fz d => cases w'
                | ow d => obtain ⟨b, e1, o⟩ := zz; exact fin e1 o
                | io d => obtain ⟨b, e1, o⟩ := zz; exact fin e1 o
              · rw [b2n rt, z.1] at w; cases w
            · rw [hh] at w; cases w
            · exact noRt a w
        · rw [show B4 a = B3 a from if_neg z]; exact h
      rcases rd with rd | ⟨o, rd⟩
      · exact .inl (key _ rd (.inl rfl))
      · exact .inr ⟨o, key _ rd (.inr ⟨o, rfl⟩)⟩
theorem ev_peek (h : EvD X e (frzA ρ) (.fz d) (frzA ρ)) (hd : d.imm = true) : EvD X e ρ (.fz d) ρ := .mk fun σ B H Q I q => by
  obtain ⟨B2, I2, k⟩ := peek_core I
  refine h σ B2 H Q I2 fun v B3 H3 I3 g3 r3 => ?_
  obtain ⟨B4, I4, g4, r4⟩ := k B3 H3 I3 g3
  exact q v B4 H3 I4 g4 (r4 d v hd r3)
theorem et_peek {b : Bool} (h : EvT X e (frzA ρ) b (frzA ρ)) : EvT X e ρ b ρ := .mk fun σ B H Q I q => by
  obtain ⟨B2, I2, k⟩ := peek_core I
  refine h σ B2 H Q I2 fun B3 H3 I3 g3 => ?_
  obtain ⟨B4, I4, g4, _⟩ := k B3 H3 I3 g3
  exact q B4 H3 I4 g4

/-! ### writing -/
/-- an owned variable: its own, or its caller's -/
def Var.own (w : Bool) (d : D) : Var := if w then .io d else .ow d
theorem own_ow {w : Bool} {d : D} : isOw (some (Var.own w d)) = true := by cases w <;> rfl
theorem var_own {K : PySem.W.Frag} {B H : Hp} {w : Bool} {d : D} {o : Option (Option V)} : VarOk K B H (Var.own w d) o ↔ ∃ a, o = some (some (.ref a)) ∧ Own K B H d a := by cases w <;> exact Iff.rfl
theorem io_own {w : Bool} {d d' : D} : isIo (some (Var.own w d)) = isIo (some (Var.own w d')) := by cases w <;> rfl
theorem write_step {K : PySem.W.Frag} {B H : Hp} {σ : L2.St} {i : Nat} {w : Bool} {d' : D} {a : Addr} {o' : HO} (I : EnvOk K B H σ ρ) (hi : ρ[i]? = some (Var.own w d)) (ha : σ[i]? = some (some (.ref a))) (hb : B a = none) (hh : ∃ o, H a = some o) (ho : Own K B (upd H a o') d' a) :
    EnvOk K B (upd H a o') σ (ρ.set i (Var.own w d')) ∧ Go (Rt σ ρ) B H (Rt σ (ρ.set i (Var.own w d'))) B (upd H a o') ∧ IoK ρ (ρ.set i (Var.own w d')) := by
  have hil := lt_of_get hi
  have ow_iff : ∀ {j : Nat}, isOw (ρ.set i (Var.own w d'))[j]? = true → isOw ρ[j]? = true := fun {j} h => by
    rcases isOw_set h with ⟨z, _⟩ | z
    · subst z; rw [hi]; exact own_ow
    · exact z.2
  refine ⟨⟨fun b x e => by rw [upd_ne (ne_of_none e hb)]; exact I.sub _ _ e, by rw [List.length_set]; exact I.len, fun j r e => ?_, fun j k b hjk h1 h2 => I.sep j k b hjk (ow_iff h1) (ow_iff h2)⟩, ⟨Same.refl B, fun b x h n => ?_, fun b x h => ?_, fun _ _ h => .inl h, fun b ⟨j, h1, h2⟩ => .inl ⟨j, ow_iff h1, h2⟩⟩, fun j h => ?_⟩
  · by_cases hj : j = i
    · subst hj
      rw [List.getElem?_set_self hil] at e
      cases e
      exact var_own.mpr ⟨a, ha, ho⟩
    · rw [List.getElem?_set_ne (Ne.symm hj)] at e
      have q := I.var j r e
      have ne : ∀ {b : Addr}, isOw (some r) = true → σ[j]? = some (some (.ref b)) → b ≠ a := fun {b} wr e1 z => I.sep j i a hj (by rw [e]; exact wr) (by rw [hi]; exact own_ow) (by rw [← z]; exact e1) ha
      cases r with
      | un => trivial
      | fz d => exact q
      | ow d => obtain ⟨b, e1, o⟩ := q; exact ⟨b, e1, o.mono (Same.refl B) o.none fun x h => by rw [upd_ne (ne rfl e1)]; exact h⟩
      | io d => obtain ⟨b, e1, o⟩ := q; exact ⟨b, e1, o.mono (Same.refl B) o.none fun x h => by rw [upd_ne (ne rfl e1)]; exact h⟩
  · rw [upd_ne fun z => n ⟨i, by rw [hi]; exact own_ow, by rw [z]; exact ha⟩]
    exact h
  · by_cases z : b = a
    · subst z; exact ⟨_, upd_same⟩
    · exact ⟨x, by rw [upd_ne z]; exact h⟩
  · by_cases hj : j = i
    · subst hj
      rw [List.getElem?_set_self hil]
      rw [hi] at h
      rw [io_own (d' := d)]
      exact h
    · rw [List.getElem?_set_ne (Ne.symm hj)]
      exact h
/-- x.append(e) -/
theorem ev_app {i : Nat} {w : Bool} {l l1 : List D} {nm m : Str} {px apos cpos : Pos} (hi0 : ρ[i]? = some (Var.own w (.lst l1))) (hN : X.N[i]? = some nm)
    (h : EvD X e ρ (.fz y) ρ1) (hi : ρ1[i]? = some (Var.own w (.lst l))) (hz : l.length < sizeLine) (W : ∀ {to : TE} {t : TA}, PE X (.Name nm px) to → PA X [e] t → PE X (.Call (.Attribute (.Name nm px) m apos) [e] [] cpos) (tBM X.K "list" rAppend to t))
    (hv : Vis X.env.scope nm := by first | exact Or.inl rfl | exact Or.inr (Or.inl rfl) | exact Or.inr (Or.inr rfl))
    (hd : (nm == ("__debug__" : Str)) = false := by decide) (hcd : (nm == ("__classdict__" : Str)) = false := by decide) (hs : starEach [e] X.env = (false, eval e X.env) :: starEach [] X.env := by first | exact star_cons rfl | rfl) :
    EvD X (.Call (.Attribute (.Name nm px) m apos) [e] [] cpos) ρ (.fz .non) (ρ1.set i (Var.own w (.lst (l ++ [y])))) := .mk fun σ B H Q I q => by
  obtain ⟨a, e1, o⟩ := var_own.mp (I.var i _ hi0)
  obtain ⟨_, vs0, h0, _⟩ := o
  refine wE.of (W (pe_var hN hv hd hcd) (pa_cons pe_w pa_nil hs)) ⟨.ref a, e1, .inl ⟨rfl, _, .inl (.inl h0)⟩, h σ B H _ I fun v B1 H1 I1 g1 r1 => ?_⟩
  obtain ⟨a2, e2, o2⟩ := var_own.mp (I1.var i _ hi)
  rw [e1] at e2
  cases e2
  obtain ⟨n2, vs2, h2, r2⟩ := o2
  have hl := r2.length
  refine ⟨a, vs2, v, rfl, rfl, h2, by omega, ?_⟩
  obtain ⟨I3, g3, io3⟩ := write_step (d' := .lst (l ++ [y])) (o' := .lst (vs2 ++ [v])) I1 hi e1 n2 ⟨_, h2⟩ ⟨n2, _, upd_same, r2.append (RepL.one r1)⟩
  exact q .non B1 _ I3 (g1.trans g3) rfl
end
end DL

/-! DL6: lists written by place, while, defs and their calls. -/
namespace DL
open PySem PySem.Spec PyProof.Rows L2

section
variable {X : Cx} {e : Expr} {es : List Expr} {st : Stmt} {sts : List Stmt} {ρ ρ1 ρ2 ρ3 ρ' : VE} {d y : D} {r : Var} {κ : KS} {pos : Pos}

theorem RepL.atI {K : PySem.W.Frag} {B : Hp} {ds : List D} {vs : List V} {i : Int} {d : D} (r : RepL K B ds vs) (h : L2.atI ds i = some d) : ∃ v, L2.atI vs i = some v ∧ Rep K B d v := by
  unfold L2.atI at h ⊢
  rw [r.length]
  cases e : ixN ds.length i with
  | none => rw [e] at h; cases h
  | some j =>
    rw [e] at h
    exact r.get h
/-- x[i] = e -/
theorem x1_setItem {i : Nat} {w : Bool} {l : List D} {nm : Str} {px sp : Pos} {ix : Expr} {k : Int} {j : Nat} (hN : X.N[i]? = some nm)
    (h : EvD X e ρ (.fz y) ρ1) (hi : ρ1[i]? = some (Var.own w (.lst l))) (hx : EvD X ix ρ1 (.fz (.int k)) ρ1) (hk : ixN l.length k = some j) (kk : κ.nx (ρ1.set i (Var.own w (.lst (l.set j y))))) (io : IoK ρ ρ1 := by first | exact IoK.refl _ | exact ioK_ok rfl) (hv : Vis X.env.scope nm := by first | exact Or.inl rfl | exact Or.inr (Or.inl rfl) | exact Or.inr (Or.inr rfl))
    (hd : (nm == ("__debug__" : Str)) = false := by decide) (hcd : (nm == ("__classdict__" : Str)) = false := by decide)
    (hs : swapsWithSole [.Subscript (.Name nm px) ix sp] e pos.line X.env = pure false := by rfl) (hw : swappedStores [.Subscript (.Name nm px) ix sp] e X.env = pure none := by rfl)
    (h1 : (assignEach [.Subscript (.Name nm px) ix sp] X.env).map (·.2) = [assign (.Subscript (.Name nm px) ix sp) X.env] := by rfl)
    (ha : ∀ v, assign (.Subscript (.Name nm px) ix sp) X.env v = (do
      let ov ← holding [v] (eval (.Name nm px) X.env)
      let iv ← holding [v, ov] (eval ix X.env)
      standAt sp
      holding [v, ov, iv] (setItem ov iv v)
      release [v, ov, iv] []) := by intro _; rfl) : X1 X (.Assign [.Subscript (.Name nm px) ix sp] e pos) ρ κ := .mk fun σ B H D I S => by
  refine wS.of (ps_asg pe_w (pg_sub (pe_var hN hv hd hcd) pe_w set_list ha) hs hw h1) (h σ B H _ I fun v B1 H1 I1 g1 r1 => ?_)
  obtain ⟨a, e1, o⟩ := var_own.mp (I1.var i _ hi)
  refine ⟨.ref a, e1, hx σ B1 H1 _ I1 fun u B2 H2 I2 g2 r2 => ?_⟩
  obtain ⟨a2, e2, o2⟩ := var_own.mp (I2.var i _ hi)
  rw [e1] at e2
  cases e2
  obtain ⟨n2, vs2, h2, q2⟩ := o2
  refine ⟨a, vs2, k, j, rfl, r2, h2, by rw [q2.length]; exact hk, ?_⟩
  obtain ⟨I3, g3, io3⟩ := write_step (d' := .lst (l.set j y)) (o' := .lst (vs2.set j v)) I2 hi e1 n2 ⟨_, h2⟩ ⟨n2, _, upd_same, RepL.set (r1.mono g2.bsub) j q2⟩
  exact S.nx σ _ B2 _ kk I3 (go_s ((g1.trans g2).trans g3) (io.trans io3))

/-! ### while -/
theorem x1_while {t : Expr} {body : List Stmt} (Iv : VE → Prop) (μ : VE → Nat) (h0 : Iv ρ) (hs : ∀ ρ', Iv ρ' → ∃ b ρ2, EvT X t ρ' b ρ2 ∧ IoK ρ' ρ2 ∧ (b = true → XS X body ρ2 { nx := fun ρ3 => Iv ρ3 ∧ μ ρ3 < μ ρ', ct := fun ρ3 => Iv ρ3 ∧ μ ρ3 < μ ρ', bk := κ.nx, rt := κ.rt }) ∧ (b = false → κ.nx ρ2))
    (hp : PassesOwn (model X.prog X.w) X.A X.env X.xe := by exact PassesOwn.never) : X1 X (.While t body [] pos) ρ κ := .mk fun σ B H D I S => by
  refine wS.of (ps_while hp pt_w pss_w) ⟨fun m σ' H' => ∃ ρ' B', Iv ρ' ∧ m = μ ρ' ∧ EnvOk X.K B' H' σ' ρ' ∧ GoS σ ρ B H σ' ρ' B' H', ⟨μ ρ, ρ, B, h0, rfl, I, GoS.refl ..⟩, ?_⟩
  rintro m σ' H' ⟨ρ', B', k, rfl, I', g'⟩
  obtain ⟨b, ρ2, hT, io, hb, hf⟩ := hs ρ' k
  refine hT σ' B' H' _ I' fun B2 H2 I2 g2 => ?_
  have gs := g'.trans (go_s g2 io)
  cases b with
  | true =>
    refine iteT ⟨fun σ3 H3 => ∃ ρ3 B3, (Iv ρ3 ∧ μ ρ3 < μ ρ') ∧ EnvOk X.K B3 H3 σ3 ρ3 ∧ GoS σ ρ B H σ3 ρ3 B3 H3, fun σ3 H3 ⟨ρ3, B3, k3, I3, g3⟩ => ⟨μ ρ3, k3.2, ρ3, B3, k3.1, rfl, I3, g3⟩, ?_⟩
    refine hb rfl σ' B2 H2 _ I2 ⟨fun σ4 ρ4 B4 H4 k4 I4 g5 => ⟨ρ4, B4, k4, I4, gs.trans g5⟩, fun σ4 ρ4 B4 H4 k4 I4 g5 => S.nx σ4 ρ4 B4 H4 k4 I4 (gs.trans g5), fun σ4 ρ4 B4 H4 k4 I4 g5 => ⟨ρ4, B4, k4, I4, gs.trans g5⟩,
      fun v r σ4 ρ4 B4 H4 k4 I4 g5 q => S.rt v r σ4 ρ4 B4 H4 k4 I4 (gs.trans g5) (q.back gs.go)⟩
  | false => exact iteF (S.nx σ' ρ2 B2 H2 (hf rfl) I2 gs)

/-! ### name = [..] -/
theorem x1_setLc (i : Nat) {elt tg iter : Expr} {ifs : List Expr} {scope : Scope} {own : List (Str × Nat)} {lpos py : Pos} {ρf : VE} {ds df : List D} {js : List Nat} {nm : Str} (hc : X.calm = true) (hN : X.N.Nodup) (hy : X.N[i]? = some nm) (hyl : X.env.scope.names.lookup nm = some .local)
    (hsw : swapsWith (.ListComp elt [⟨tg, iter, ifs, 0⟩] scope lpos) (some (.Name nm py)) pos.line X.env = pure true) (hi : EvI X tg iter ρ ds ρ1) (ok : BlkOk X.N X.env.scope scope own) (Iv : Nat → VE → List D → Prop) (h0 : Iv 0 ρ1 []) (hjs : ∀ j, j ∈ js → j ∈ own.map (·.2))
    (hs : ∀ (i : Nat) (d : D) (ρ' : VE) (out : List D), ds[i]? = some d → Iv i ρ' out → LcTurn X elt tg ifs scope (own.map (·.2)) js d ρ' out (Iv (i + 1))) (hd : ∀ ρ' out, Iv ds.length ρ' out → ρ' = ρf ∧ out = df) (hz : ds.length < sizeLine)
    (hlen : ∀ i ρ' out, Iv i ρ' out → out.length ≤ i) (k : κ.nx (ρf.set i (.ow (.lst df)))) (hl : decide (i < ρf.length) = true := by rfl) (hio : isIo ρf[i]? = false := by rfl) (io : IoK ρ ρf := by first | exact IoK.refl _ | exact ioK_ok rfl)
    (hfs : ∀ x, foldedSetIterable iter X.env x = pure x := by intro _; rfl) : X1 X (.Assign [.Name nm py] (.ListComp elt [⟨tg, iter, ifs, 0⟩] scope lpos) pos) ρ κ := .mk fun σ B H D I S =>
  wS.of (ps_setLc hc hN hy hyl hsw pi_w ok (fun s H C cl fp => ⟨fun pins s' σ H v u Q I r h => h s _ C cl fp pins s' u I r⟩) (fun s H C cl fp => ⟨fun pins s' σ H Q I h => h s _ C cl fp pins s' I⟩) (fun s H C cl fp => ⟨fun pins s' σ H Q I h => h s _ C cl fp pins s' I⟩) hfs)
    (lc_read hi Iv h0 hjs hs hd hz hlen I fun v B' H' I' g q => by
      obtain ⟨I2, g2⟩ := set_step I' g q (of_decide_eq_true hl) io hio
      exact S.nx _ _ B' H' k I2 g2)
end

/-! ### defs -/
/-- what a def does: its arguments (frozen, or its caller's own), its result, the arguments behind it -/
abbrev FS := List Var → Var → List Var → Prop
/-- a result of a call: a new object is new -/
def ResC (K : PySem.W.Frag) (H0 : Hp) (B' H' : Hp) : Var → V → Prop
  | .fz d, v => Rep K B' d v
  | .ow d, v => ∃ a, v = .ref a ∧ Own K B' H' d a ∧ H0 a = none
  | _, _ => False
def spF (K : PySem.W.Frag) (S : FS) : Sp := fun vs H Q _ => ∃ B as r as', EnvOk K B H (vs.map some) as ∧ S as r as' ∧ ∀ v B' H', EnvOk K B' H' (vs.map some) as' → Go (Rt (vs.map some) as) B H (Rt (vs.map some) as') B' H' → ResC K H B' H' r v → Q v H'
/-- the parameters behind the body: what was its caller's own is as told, the others are as they were -/
def ParOk (as as' : List Var) (ρ : VE) : Prop := ∀ i : Nat, i < as.length → (isIo as[i]? = true → as'[i]? = ρ[i]? ∧ isIo as'[i]? = true) ∧ (isIo as[i]? = false → as'[i]? = as[i]?)
/-- no parameter is owned by the def alone -/
def parF : List Var → Bool
  | [] => true
  | .fz _ :: r => parF r
  | .io _ :: r => parF r
  | _ :: _ => false
theorem parF_get : ∀ {as : List Var} {i : Nat} {r : Var}, parF as = true → as[i]? = some r → (∃ d, r = .fz d) ∨ ∃ d, r = .io d
  | [], _, _, _, h => by simp at h
  | .fz d :: r, 0, _, _, h => by simp at h; exact .inl ⟨d, h.symm⟩
  | .io d :: r, 0, _, _, h => by simp at h; exact .inr ⟨d, h.symm⟩
  | .fz d :: r, i + 1, _, p, h => parF_get (as := r) p (by simpa using h)
  | .io d :: r, i + 1, _, p, h => parF_get (as := r) p (by simpa using h)
  | .un :: r, _, _, p, _ => by cases p
  | .ow _ :: r, _, _, p, _ => by cases p
/-- the def's variables at its start -/
def startV (n : Nat) (as : List Var) : VE := as ++ List.replicate (n - as.length) .un
theorem fn_read {X : Cx} {S : FS} {sts : List Stmt} {N : List Str} {vs : List V} {H : Hp} {Q : VK} {E : XK} (hN : vs.length ≤ N.length)
    (hS : ∀ as r as', S as r as' → parF as = true ∧ as'.length = as.length)
    (h : ∀ as r as', S as r as' → XS X sts (startV N.length as) { nx := fun ρ => r = .fz .non ∧ ParOk as as' ρ, rt := fun r' ρ => r' = r ∧ ParOk as as' ρ }) (q : spF X.K S vs H Q E) :
    wSs X sts { nx := fun _ H' => Q .non H', rt := Q } (L2.start N vs) H := by
  obtain ⟨B, as, r, as', I, hs, k⟩ := q
  obtain ⟨pf, hl'⟩ := hS as r as' hs
  have hal : as.length = vs.length := by rw [I.len, List.length_map]
  have I0 : EnvOk X.K B H (L2.start N vs) (startV N.length as) := by
    unfold L2.start startV
    have tail : ∀ {i : Nat} {r : Var}, (as ++ List.replicate (N.length - as.length) .un)[i]? = some r → (i < as.length ∧ as[i]? = some r) ∨ r = .un := fun {i r} e => by
      by_cases hi : i < as.length
      · rw [List.getElem?_append_left hi] at e; exact .inl ⟨hi, e⟩
      · rw [List.getElem?_append_right (by omega)] at e
        rw [List.getElem?_replicate] at e
        split at e
        · cases e; exact .inr rfl
        · cases e
    have front : ∀ {i : Nat}, i < as.length → (vs.map some ++ List.replicate (N.length - vs.length) none)[i]? = (vs.map some)[i]? := fun {i} hi => List.getElem?_append_left (by rw [List.length_map]; omega)
    refine ⟨I.sub, by simp; omega, fun i r e => ?_, fun i j a hij h1 h2 e1 e2 => ?_⟩
    · rcases tail e with ⟨hi, e⟩ | e
      · rw [front hi]; exact I.var i r e
      · subst e; trivial
    · obtain ⟨r1, q1, w1⟩ := isOw_get h1
      obtain ⟨r2, q2, w2⟩ := isOw_get h2
      rcases tail q1 with ⟨n1, z1⟩ | z
      · rcases tail q2 with ⟨n2, z2⟩ | z
        · rw [front n1] at e1
          rw [front n2] at e2
          exact I.sep i j a hij (by rw [z1]; exact w1) (by rw [z2]; exact w2) e1 e2
        · subst z; cases w2
      · subst z; cases w1
  have st : ∀ {i : Nat}, i < as.length → (L2.start N vs)[i]? = (vs.map some)[i]? ∧ (startV N.length as)[i]? = as[i]? := fun {i} hi => ⟨List.getElem?_append_left (by rw [List.length_map]; omega), List.getElem?_append_left hi⟩
  -- behind the body
  have fin : ∀ {v : V} {r' : Var} {σ' : L2.St} {ρ' : VE} {B' H' : Hp}, r' = r ∧ ParOk as as' ρ' → EnvOk X.K B' H' σ' ρ' → GoS (L2.start N vs) (startV N.length as) B H σ' ρ' B' H' → ResS X.K H (Rt (L2.start N vs) (startV N.length as)) (Rt σ' ρ') B' H' r' v → Q v H' := fun {v r' σ' ρ' B' H'} kk I' g rs => by
    obtain ⟨er, pk⟩ := kk
    subst er
    have rt0 : ∀ a, Rt (L2.start N vs) (startV N.length as) a → Rt (vs.map some) as a := fun a ⟨i, h1, h2⟩ => by
      by_cases hi : i < as.length
      · rw [(st hi).2] at h1
        rw [(st hi).1] at h2
        exact ⟨i, h1, h2⟩
      · exfalso
        unfold startV at h1
        rw [List.getElem?_append_right (by omega), List.getElem?_replicate] at h1
        split at h1 <;> cases h1
    have ioA : ∀ {i : Nat}, i < as.length → isIo as[i]? = true → σ'[i]? = (vs.map some)[i]? ∧ as'[i]? = ρ'[i]? := fun {i} hi hio => by
      have z := g.io i (by rw [(st hi).2]; exact hio)
      exact ⟨z.2.trans (st hi).1, ((pk i hi).1 hio).1⟩
    have owA : ∀ {i : Nat}, isOw as'[i]? = true → i < as.length ∧ isIo as[i]? = true := fun {i} h => by
      obtain ⟨r1, q1, w1⟩ := isOw_get h
      have hi : i < as.length := by rw [← hl']; exact lt_of_get q1
      refine ⟨hi, ?_⟩
      cases hio : isIo as[i]? with
      | true => rfl
      | false =>
        have z := (pk i hi).2 hio
        rw [z] at h
        obtain ⟨r2, q2, w2⟩ := isOw_get h
        rcases parF_get pf q2 with ⟨d, e⟩ | ⟨d, e⟩
        · subst e; cases w2
        · subst e; rw [q2] at hio; cases hio
    have I2 : EnvOk X.K B' H' (vs.map some) as' := ⟨I'.sub, by rw [hl', hal, List.length_map], fun i r e => by
      have hi : i < as.length := by rw [← hl']; exact lt_of_get e
      cases hio : isIo as[i]? with
      | true =>
        obtain ⟨z1, z2⟩ := ioA hi hio
        rw [← z1]
        exact I'.var i r (by rw [← z2]; exact e)
      | false =>
        have z := (pk i hi).2 hio
        rw [z] at e
        rcases parF_get pf e with ⟨d, e2⟩ | ⟨d, e2⟩
        · subst e2
          obtain ⟨u, w1, w2⟩ := I.var i _ e
          exact ⟨u, w1, w2.mono g.go.bsub⟩
        · subst e2; rw [e] at hio; exact Bool.noConfusion hio, fun i j a hij h1 h2 e1 e2 => by
      obtain ⟨hi, io1⟩ := owA h1
      obtain ⟨hj, io2⟩ := owA h2
      obtain ⟨z1, z2⟩ := ioA hi io1
      obtain ⟨z3, z4⟩ := ioA hj io2
      exact I'.sep i j a hij (by rw [← z2]; exact h1) (by rw [← z4]; exact h2) (z1.trans e1) (z3.trans e2)⟩
    have rtA : ∀ a, Rt (vs.map some) as' a → Rt (vs.map some) as a := fun a ⟨i, h1, h2⟩ => by
      obtain ⟨hi, io1⟩ := owA h1
      refine ⟨i, ?_, h2⟩
      cases q : as[i]? with
      | none => rw [q] at io1; cases io1
      | some s => rw [q] at io1; cases s <;> first | rfl | cases io1
    refine k v B' H' I2 ⟨g.go.bsub, fun a o h n => g.go.keep a o h fun z => n (rt0 a z), g.go.there, fun a o h => ?_, fun a h => .inl (rtA a h)⟩ ?_
    · rcases g.go.new a o h with z | z | z
      · exact .inl z
      · exact .inr (.inl z)
      · exact .inr (.inr (rt0 a z))
    · cases r' with
      | un => exact rs
      | fz d => exact rs
      | io d => exact rs
      | ow d =>
        obtain ⟨a, e, o, n, z⟩ := rs
        refine ⟨a, e, o, ?_⟩
        rcases z with z | z
        · exact z
        · exfalso
          obtain ⟨i, h1, h2⟩ := rt0 a z
          obtain ⟨r1, q1, w1⟩ := isOw_get h1
          have hi := lt_of_get q1
          have hio : isIo as[i]? = true := by
            rw [q1]
            rcases parF_get pf q1 with ⟨d, e⟩ | ⟨d, e⟩
            · subst e; cases w1
            · subst e; rfl
          obtain ⟨z1, z2⟩ := ioA hi hio
          refine n ⟨i, ?_, z1.trans h2⟩
          have z5 := ((pk i hi).1 hio).2
          rw [← z2]
          cases q : as'[i]? with
          | none => rw [q] at z5; cases z5
          | some s => rw [q] at z5; cases s <;> first | rfl | cases z5
  refine h as r as' hs _ B H _ I0 ⟨fun σ' ρ' B' H' kk I' g => ?_, fun _ _ _ _ kk => kk.elim, fun _ _ _ _ kk => kk.elim, fun v r' σ' ρ' B' H' kk I' g rs => fin kk I' g rs⟩
  exact fin (v := .non) (r' := .fz .non) ⟨kk.1.symm, kk.2⟩ I' g rfl

/-- a def of the text, known by its name: it keeps its promise -/
def Fc (P : Program) (w : World) (K : PySem.W.Frag) (mg : Str → Option Value) (base : Heap) (x : Str) (ps : List Str) (k : Nat) (S : FS) : Prop :=
  ∃ f fd, FnOk P w K mg base CX0 k f fd ps (spF K S) ∧ mg x = some (.ref f) ∧ PySem.W.keepIn K (.ref f) = true ∧ Binds K fd ps []
section
variable {X : Cx} {e : Expr} {es : List Expr} {ρ ρ1 : VE} {r : Var} {pos p : Pos} {x : Str} {ps : List Str} {k : Nat} {S : FS} {ds : List D}
/-- the end of a call whose arguments are frozen -/
theorem call_fin {K : PySem.W.Frag} {σ : L2.St} {B0 H0 B H : Hp} {W0 : Addr → Prop} {vs : List V} {Q : VK} (I : EnvOk K B H σ ρ1) (g0 : Go W0 B0 H0 (Rt σ ρ1) B H) (rv : RepL K B ds vs) (hs : S (ds.map .fz) r (ds.map .fz))
    (q : ∀ v B' H', EnvOk K B' H' σ ρ1 → Go W0 B0 H0 (Rt σ ρ1) B' H' → ResOk K H0 (Rt σ ρ1) B' H' r v → Q v H') : spF K S (vs ++ []) H Q E0 := by
  rw [List.append_nil]
  have noRt : ∀ a, ¬ Rt (vs.map some) (ds.map Var.fz) a := fun a ⟨i, h1, _⟩ => by
    rw [List.getElem?_map] at h1
    cases e : ds[i]? with
    | none => rw [e] at h1; cases h1
    | some d => rw [e] at h1; cases h1
  refine ⟨B, ds.map .fz, r, ds.map .fz, ⟨I.sub, by rw [List.length_map, List.length_map, rv.length], fun i s e => ?_, fun i j a _ h1 _ => ?_⟩, hs, fun v B' H' I' g' rc => ?_⟩
  · rw [List.getElem?_map] at e
    obtain ⟨d, h1, h2⟩ := Option.map_eq_some_iff.mp e
    subst h2
    obtain ⟨v, h3, h4⟩ := rv.get h1
    exact ⟨v, by rw [List.getElem?_map, h3]; rfl, h4⟩
  · rw [List.getElem?_map] at h1
    cases e : ds[i]? with
    | none => rw [e] at h1; cases h1
    | some d => rw [e] at h1; cases h1
  · have gr : Grw B H B' H' := ⟨I'.sub, g'.bsub, fun a o h => g'.keep a o h (noRt a), fun a o h => by
      rcases g'.new a o h with z | z | z
      · exact .inl z
      · exact .inr z
      · exact (noRt a z).elim⟩
    obtain ⟨i1, i2, i3⟩ := fin_op (res := r) (u := v) I g0 gr (by
      cases r with
      | un => exact rc
      | fz d => exact rc
      | io d => exact rc
      | ow d => exact rc)
    exact q v B' H' i1 i2 i3
/-- f(e, ..) -/
theorem ev_call (F : Fc X.prog X.w X.K X.mg X.base x ps k S) (hr : Room k X.A) (hg : Gl X x) (hx : Passes CX0 X E0) (ha : EvA X (e :: es) ρ ds ρ1) (hs : S (ds.map .fz) r (ds.map .fz))
    (hdb : (x == ("__debug__" : Str)) = false := by decide) (he : starEach (e :: es) X.env = (false, eval e X.env) :: starEach es X.env := by first | exact star_cons rfl | rfl) (hpl : (backTo pos (starEach es X.env)).any (·.1) = false := by first | exact plain_star rfl | rfl) : EvD X (.Call (.Name x p) (e :: es) [] pos) ρ r ρ1 := .mk fun σ B H Q I q => by
  obtain ⟨f, fd, F, hm, hk, hb⟩ := F
  refine wE.of (pe_call F hr hg hm hk hb .nil hx pa_w hdb he hpl) (ha σ B H _ I fun vs B1 H1 I1 g1 r1 => ?_)
  exact call_fin I1 g1 r1 hs q
theorem ev_call0 (F : Fc X.prog X.w X.K X.mg X.base x ps k S) (hr : Room k X.A) (hg : Gl X x) (hx : Passes CX0 X E0) (hs : S [] r []) (hdb : (x == ("__debug__" : Str)) = false := by decide) : EvD X (.Call (.Name x p) [] [] pos) ρ r ρ := .mk fun σ B H Q I q => by
  obtain ⟨f, fd, F, hm, hk, hb⟩ := F
  refine wE.of (pe_call0 F hr hg hm hk hb .nil hx hdb) ?_
  exact call_fin (ds := []) (vs := []) I (Go.refl _ _ _) rfl hs q
end
end DL

/-! DL7: a def's body; lists, tuples, built-ins. -/
namespace DL
open PySem PySem.Spec PyProof.Rows L2

/-- the context of a def's body -/
abbrev cxD (P : Program) (w : World) (K : PySem.W.Frag) (mg : Str → Option Value) (base : Heap) (N : List Str) (qual : Str) (st : Stmt) (f : Addr) (cdv : Value) (A : Around) (outer : List Env) (s : Shared) (H : Hp) (E : XK) : Cx :=
  (cxOf CX0 P w K mg base N qual (defScope st) f cdv A outer s H E).nox
section
variable {P : Program} {w : World} {K : PySem.W.Frag} {mg : Str → Option Value} {base : Heap}
theorem fc_of {x qual : Str} {st : Stmt} {f : Addr} {fd : FuncData} {N ps : List Str} {k : Nat} {S : FS} {kws : List (Str × V)} (F : FunD K x qual (defArgs st) (defBody st) (defScope st) [] kws f fd) (hm : mg x = some (.ref f)) (Sc : FnScope N ps (defScope st)) (hps : ps.length ≤ N.length)
    (hb : ∀ (kV doc pm : Value) (an : Option Addr) (cdv ct : Value) (us : List Value), us.length = ps.length → bindArgs (PySem.W.fnOf x qual (defArgs st) (defBody st) (defScope st) .none kV doc pm an cdv ct) ⟨us, []⟩ = pure (ps.zip us))
    (hS : ∀ as r as', S as r as' → parF as = true ∧ as'.length = as.length ∧ as.length = ps.length)
    (body : ∀ (cdv : Value) (A : Around) (outer : List Env) (s : Shared) (H : Hp) (E : XK), Room k (A.deeper (envOfC qual (defScope st) s.heap.objs.size f cdv)) → ∀ as r as', S as r as' →
      XS (cxD P w K mg base N qual st f cdv A outer s H E) (defBody st) (startV N.length as) { nx := fun ρ => r = .fz .non ∧ ParOk as as' ρ, rt := fun r' ρ => r' = r ∧ ParOk as as' ρ }) : Fc P w K mg base x ps (k + 1) S := by
  have lenv : ∀ vs H Q E, spF K S vs H Q E → vs.length = ps.length := fun vs H Q E ⟨B, as, r, as', I, hs, _⟩ => by
    rw [← (hS as r as' hs).2.2, I.len, List.length_map]
  refine ⟨f, fd, FunD.ok F Sc lenv fun cdv A outer s H vs Q E hr h => ⟨_, PSs.nox pss_w, ?_⟩, hm, F.kp, F.bindsN hb⟩
  exact fn_read (X := cxD P w K mg base N qual st f cdv A outer s H E) (N := N) (E := E) (by rw [lenv vs H Q E h]; exact hps) (fun as r as' z => ⟨(hS as r as' z).1, (hS as r as' z).2.1⟩) (body cdv A outer s H E hr) h
theorem Fc.mono {x : Str} {ps : List Str} {j k : Nat} {S : FS} (F : Fc P w K mg base x ps j S) (h : j ≤ k) : Fc P w K mg base x ps k S := by
  obtain ⟨f, fd, F, r⟩ := F
  exact ⟨f, fd, F.mono h, r⟩
end

/-- a def that changes nothing of its caller's: its arguments' data, its result -/
def FP (R : List D → Var → Prop) : FS := fun as r as' => ∃ ds, as = ds.map .fz ∧ as' = as ∧ R ds r
theorem parF_map : ∀ ds : List D, parF (ds.map Var.fz) = true
  | [] => rfl
  | _ :: r => parF_map r
theorem FP.par {R : List D → Var → Prop} {n : Nat} (h : ∀ ds r, R ds r → ds.length = n) : ∀ as r as', FP R as r as' → parF as = true ∧ as'.length = as.length ∧ as.length = n := fun as r as' ⟨ds, e, e', z⟩ => by
  subst e e'
  exact ⟨parF_map ds, rfl, by rw [List.length_map]; exact h ds r z⟩
theorem FP.ok {as as' : List Var} {ds : List D} {ρ : VE} (h : as = ds.map .fz) (h' : as' = as) : ParOk as as' ρ := fun i hi => by
  subst h h'
  have e : isIo (ds.map Var.fz)[i]? = false := by
    rw [List.getElem?_map]
    cases ds[i]? <;> rfl
  exact ⟨(fun z => by rw [e] at z; cases z), fun _ => rfl⟩
theorem FP.mk {R : List D → Var → Prop} {ds : List D} {r : Var} (h : R ds r) : FP R (ds.map .fz) r (ds.map .fz) := ⟨ds, rfl, rfl, h⟩

/-! ### displays -/
section
variable {X : Cx} {e a b : Expr} {es : List Expr} {ρ ρ1 ρ2 : VE} {d x y : D} {r : Var} {pos p : Pos} {ds xs ys : List D} {i j : Int}
theorem ev_tup {k : Nat} (h : EvA X es ρ ds ρ1) (hz : ds.length ≤ sizeLine) : EvD X (.Tuple es k pos) ρ (.fz (.tup ds)) ρ1 := .mk fun σ B H Q I q => by
  refine wE.of (pe_tup pa_w) (h σ B H _ I fun vs B1 H1 I1 g1 r1 => ⟨by rw [r1.length]; exact hz, fun p hp => ?_⟩)
  have gr := Grw.push (o := .tup vs) I1.sub hp
  exact q (.ref p) _ _ (I1.grw gr) (g1.trans (gr.go _)) ⟨p, vs, rfl, .inl (.inl upd_same), r1.mono gr.bsub⟩
theorem ev_lst (h : EvA X es ρ ds ρ1) (hz : ds.length ≤ sizeLine) : EvD X (.List es pos) ρ (.ow (.lst ds)) ρ1 := .mk fun σ B H Q I q => by
  refine wE.of (pe_lst pa_w) (h σ B H _ I fun vs B1 H1 I1 g1 r1 => ⟨by rw [r1.length]; exact hz, fun p hp => ?_⟩)
  have gr := Grw.own (o := .lst vs) I1.sub hp
  obtain ⟨i1, i2, i3⟩ := fin_op (res := .ow (.lst ds)) (u := .ref p) I1 g1 gr ⟨p, rfl, ⟨I1.sub.free hp, vs, upd_same, r1⟩, hp⟩
  exact q _ _ _ i1 i2 i3

/-! ### items -/
theorem od_ixL (h : L2.atI xs i = some d) : OpD X (rIxL X.K) (.lst xs) (.int i) (.fz d) := fun v w B H Q s hv hw q => by
  obtain ⟨a, vs, e, hs, r⟩ := hv
  obtain ⟨u, h1, h2⟩ := r.atI h
  exact ⟨a, vs, i, u, e, hw, .inl (.inl (s _ _ hs)), h1, q u B H (Grw.refl s) h2⟩
theorem od_ixS (h : L2.atI xs i = some d) : OpD X (rIxL X.K) (.seq xs) (.int i) (.fz d) := fun v w B H Q s hv hw q => by
  obtain ⟨a, vs, e, hs, r⟩ := hv
  obtain ⟨u, h1, h2⟩ := r.atI h
  exact ⟨a, vs, i, u, e, hw, s.seq hs, h1, q u B H (Grw.refl s) h2⟩
theorem od_ixT (h : L2.atI xs i = some d) : OpD X (rIxT X.K) (.tup xs) (.int i) (.fz d) := fun v w B H Q s hv hw q => by
  obtain ⟨a, vs, e, hs, r⟩ := hv
  obtain ⟨u, h1, h2⟩ := r.atI h
  exact ⟨a, vs, i, u, e, hw, same_t s hs, h1, q u B H (Grw.refl s) h2⟩
theorem ev_ixL (ha : EvD X a ρ (.fz (.lst xs)) ρ1) (hb : EvD X b ρ1 (.fz (.int i)) ρ2) (h : L2.atI xs i = some d) (hs : PlainIx b := by exact fun _ _ => rfl) : EvD X (.Subscript a b pos) ρ (.fz d) ρ2 := ev_bin (fun h1 h2 => pe_ix ix_list h1 h2 hs) ha hb (od_ixL h)
theorem ev_ixS (ha : EvD X a ρ (.fz (.seq xs)) ρ1) (hb : EvD X b ρ1 (.fz (.int i)) ρ2) (h : L2.atI xs i = some d) (hs : PlainIx b := by exact fun _ _ => rfl) : EvD X (.Subscript a b pos) ρ (.fz d) ρ2 := ev_bin (fun h1 h2 => pe_ix ix_list h1 h2 hs) ha hb (od_ixS h)
theorem ev_ixT (ha : EvD X a ρ (.fz (.tup xs)) ρ1) (hb : EvD X b ρ1 (.fz (.int i)) ρ2) (h : L2.atI xs i = some d) (hs : PlainIx b := by exact fun _ _ => rfl) : EvD X (.Subscript a b pos) ρ (.fz d) ρ2 := ev_bin (fun h1 h2 => pe_ix ix_tup h1 h2 hs) ha hb (od_ixT h)

/-! ### x in t, ints -/
theorem inV_int (x : Int) : ∀ l : List Int, inV (.int x) (l.map V.int) = decide (x ∈ l)
  | [] => by simp [inV]
  | y :: l => by
    have ih := inV_int x l
    unfold inV at ih ⊢
    rw [List.map_cons, List.any_cons, ih]
    have e : eqV (.int y) (.int x) = decide (y = x) := by
      unfold eqV
      first | rfl | simp [beq_eq_decide]
    rw [e]
    by_cases h : y = x
    · subst h; simp
    · have h' : ¬ x = y := fun z => h z.symm
      simp [h, h', List.mem_cons]
theorem flat_ints : ∀ l : List Int, (l.map V.int).all flatV = true
  | [] => rfl
  | x :: l => by rw [List.map_cons, List.all_cons, flat_ints l]; rfl
theorem od_in {neg : Bool} {l : List Int} (hy : y = .tup (l.map .int) ∨ y = .lst (l.map .int)) : OpD X (rIn X.K neg) (.int i) y (.fz (.bl (if neg then !decide (i ∈ l) else decide (i ∈ l)))) := fun v w B H Q s hv hw q => by
  have hv' : v = .int i := hv
  subst hv'
  have fin : ∀ a, (SqL X.K H a (l.map V.int) ∨ SqT X.K H a (l.map V.int)) → rIn X.K neg (.int i) (.ref a) H Q := fun a ha =>
    ⟨a, l.map V.int, rfl, ha, rfl, flat_ints l, by rw [inV_int]; exact q _ B H (Grw.refl s) rfl⟩
  rcases hy with rfl | rfl
  · obtain ⟨a, vs, e, hs, r⟩ := hw
    subst e
    rw [r.ints] at hs
    exact fin a (.inr (same_t s hs))
  · obtain ⟨a, vs, e, hs, r⟩ := hw
    subst e
    rw [r.ints] at hs
    exact fin a (.inl (.inl (.inl (s _ _ hs))))
theorem cp_inT {l : List Int} (ha : EvD X a ρ (.fz (.int i)) ρ1) (hb : EvD X b ρ1 (.fz (.tup (l.map .int))) ρ2) : CpD X .In a b ρ (.fz (.bl (decide (i ∈ l)))) ρ2 := cp_op op_in_seq ha hb (od_in (neg := false) (.inl rfl))
theorem cp_niT {l : List Int} (ha : EvD X a ρ (.fz (.int i)) ρ1) (hb : EvD X b ρ1 (.fz (.tup (l.map .int))) ρ2) : CpD X .NotIn a b ρ (.fz (.bl (!decide (i ∈ l)))) ρ2 := cp_op op_notIn_seq ha hb (od_in (neg := true) (.inl rfl))
theorem cp_inL {l : List Int} (ha : EvD X a ρ (.fz (.int i)) ρ1) (hb : EvD X b ρ1 (.fz (.lst (l.map .int))) ρ2) : CpD X .In a b ρ (.fz (.bl (decide (i ∈ l)))) ρ2 := cp_op op_in_seq ha hb (od_in (neg := false) (.inr rfl))
theorem cp_niL {l : List Int} (ha : EvD X a ρ (.fz (.int i)) ρ1) (hb : EvD X b ρ1 (.fz (.lst (l.map .int))) ρ2) : CpD X .NotIn a b ρ (.fz (.bl (!decide (i ∈ l)))) ρ2 := cp_op op_notIn_seq ha hb (od_in (neg := true) (.inr rfl))

/-! ### == of data -/
theorem cp_eqD (ha : EvD X a ρ (.fz x) ρ1) (hb : EvD X b ρ1 (.fz y) ρ2) (hu : X.A.units + 64 < cLine) (px : x.pure = true) (py : y.pure = true) (dx : x.py.depth ≤ 64) (dy : y.py.depth ≤ 64) : CpD X .Eq a b ρ (.fz (.bl (PyData.eqv x.py y.py))) ρ2 :=
  cp_op (op_eqD hu) ha hb fun v w B H Q s hv hw q => ⟨x.py, y.py, Rep.dp px (hv.mono s), Rep.dp py (hw.mono s), by unfold SeqAt.shaped; rw [canLay_py px, decide_eq_true dx]; rfl, by unfold SeqAt.shaped; rw [canLay_py py, decide_eq_true dy]; rfl, q _ B H (Grw.refl s) rfl⟩
theorem cp_neD (ha : EvD X a ρ (.fz x) ρ1) (hb : EvD X b ρ1 (.fz y) ρ2) (hu : X.A.units + 64 < cLine) (px : x.pure = true) (py : y.pure = true) (dx : x.py.depth ≤ 64) (dy : y.py.depth ≤ 64) : CpD X .NotEq a b ρ (.fz (.bl (!PyData.eqv x.py y.py))) ρ2 :=
  cp_op (op_neD hu) ha hb fun v w B H Q s hv hw q => ⟨x.py, y.py, Rep.dp px (hv.mono s), Rep.dp py (hw.mono s), by unfold SeqAt.shaped; rw [canLay_py px, decide_eq_true dx]; rfl, by unfold SeqAt.shaped; rw [canLay_py py, decide_eq_true dy]; rfl, q _ B H (Grw.refl s) rfl⟩
theorem dec_I : decide (V.int i = V.int j) = decide (i = j) := by
  by_cases h : i = j <;> simp [h]
theorem cp_eqI (ha : EvD X a ρ (.fz (.int i)) ρ1) (hb : EvD X b ρ1 (.fz (.int j)) ρ2) : CpD X .Eq a b ρ (.fz (.bl (decide (i = j)))) ρ2 :=
  cp_op op_eq ha hb fun v w B H Q s hv hw q => by
    rw [show v = V.int i from hv, show w = V.int j from hw]
    exact ⟨rfl, q _ B H (Grw.refl s) (by rw [dec_I]; rfl)⟩
theorem cp_neI (ha : EvD X a ρ (.fz (.int i)) ρ1) (hb : EvD X b ρ1 (.fz (.int j)) ρ2) : CpD X .NotEq a b ρ (.fz (.bl (!decide (i = j)))) ρ2 :=
  cp_op op_ne ha hb fun v w B H Q s hv hw q => by
    rw [show v = V.int i from hv, show w = V.int j from hw]
    exact ⟨rfl, q _ B H (Grw.refl s) (by rw [dec_I]; rfl)⟩
/-- e is None -/
def isNon : D → Bool
  | .non => true
  | .raw v => decide (v = .non)
  | _ => false
theorem rep_non {K : PySem.W.Frag} {B : Hp} : ∀ {x : D} {v : V}, Rep K B x v → decide (v = V.non) = isNon x
  | .non, _, h => by rw [show _ = V.non from h]; rfl
  | .bl b, _, h => by rw [show _ = V.bl b from h]; rfl
  | .int b, _, h => by rw [show _ = V.int b from h]; rfl
  | .str b, _, h => by rw [show _ = V.str b from h]; rfl
  | .raw u, _, h => by rw [show _ = u from h]; rfl
  | .dz _ _, _, ⟨a, _, _, h, _⟩ => by rw [h]; rfl
  | .tup _, _, ⟨a, _, h, _⟩ => by rw [h]; rfl
  | .lst _, _, ⟨a, _, h, _⟩ => by rw [h]; rfl
  | .seq _, _, ⟨a, _, h, _⟩ => by rw [h]; rfl
  | .dk _ _, _, ⟨a, _, h, _⟩ => by rw [h]; rfl
  | .dt _ _, _, ⟨a, _, h, _⟩ => by rw [h]; rfl
  | .ins _ _ _, _, ⟨a, _, _, h, _⟩ => by rw [h]; rfl
theorem cp_isN {j' pos'} (ha : EvD X a ρ (.fz x) ρ1) : CpD X .Is a (.Constant .none j' pos') ρ (.fz (.bl (isNon x))) ρ1 := .mk fun σ B H Q I q =>
  wC.of (pc_isN pe_w) (ha σ B H _ I fun v B1 H1 I1 g1 r1 => q _ B1 H1 I1 g1 (by rw [rep_non r1]; rfl))
theorem cp_isnN {j' pos'} (ha : EvD X a ρ (.fz x) ρ1) : CpD X .IsNot a (.Constant .none j' pos') ρ (.fz (.bl (!isNon x))) ρ1 := .mk fun σ B H Q I q =>
  wC.of (pc_notN pe_w) (ha σ B H _ I fun v B1 H1 I1 g1 r1 => q _ B1 H1 I1 g1 (by rw [rep_non r1]; rfl))

/-! ### lists and tuples put together -/
theorem ev_cat (ha : EvD X a ρ (.fz (.lst xs)) ρ1) (hb : EvD X b ρ1 (.fz (.lst ys)) ρ2) (hz : xs.length + ys.length ≤ sizeLine) : EvD X (.BinOp a .Add b pos) ρ (.ow (.lst (xs ++ ys))) ρ2 := ev_bin (pe_op op_cat) ha hb fun v w B H Q s hv hw q => by
  obtain ⟨a, vs, e, hs, r⟩ := hv
  obtain ⟨b, ws, e2, hs2, r2⟩ := hw
  refine ⟨a, b, vs, ws, e, e2, s _ _ hs, s _ _ hs2, by rw [r.length, r2.length]; exact hz, fun p hp => ?_⟩
  exact q _ B _ (Grw.own s hp) ⟨p, rfl, ⟨s.free hp, _, upd_same, r.append r2⟩, hp⟩
theorem ev_rep {n : Int} (ha : EvD X a ρ (.fz (.lst xs)) ρ1) (hb : EvD X b ρ1 (.fz (.int n)) ρ2) (hn : -(2 ^ 63) ≤ n ∧ n < 2 ^ 63) (hz : xs.length * n.toNat ≤ sizeLine) : EvD X (.BinOp a .Mult b pos) ρ (.ow (.lst (List.replicate n.toNat xs).flatten)) ρ2 := ev_bin (pe_op op_rep) ha hb fun v w B H Q s hv hw q => by
  obtain ⟨a, vs, e, hs, r⟩ := hv
  refine ⟨a, n, vs, e, hw, s _ _ hs, hn.1, hn.2, by rw [r.length]; exact hz, fun p hp => ?_⟩
  have rr : ∀ m : Nat, RepL X.K B (List.replicate m xs).flatten (List.replicate m vs).flatten := fun m => by
    induction m with
    | zero => exact rfl
    | succ m ih =>
      rw [List.replicate_succ, List.replicate_succ, List.flatten_cons, List.flatten_cons]
      exact r.append ih
  exact q _ B _ (Grw.own s hp) ⟨p, rfl, ⟨s.free hp, _, upd_same, rr _⟩, hp⟩
theorem ev_catT (ha : EvD X a ρ (.fz (.tup xs)) ρ1) (hb : EvD X b ρ1 (.fz (.tup ys)) ρ2) (hz : xs.length + ys.length ≤ sizeLine) : EvD X (.BinOp a .Add b pos) ρ (.fz (.tup (xs ++ ys))) ρ2 := ev_bin (pe_op op_catA) ha hb fun v w B H Q s hv hw q => by
  obtain ⟨a, vs, e, hs, r⟩ := hv
  obtain ⟨b, ws, e2, hs2, r2⟩ := hw
  have ra : RepL X.K B (xs ++ ys) (vs ++ ws) := r.append r2
  refine ⟨a, b, vs, ws, e, e2, same_t s hs, same_t s hs2, by rw [r.length, r2.length]; exact hz, fun z => q _ B H (Grw.refl s) ⟨b, ws, rfl, hs2, ?_⟩, fun _ z => q _ B H (Grw.refl s) ⟨a, vs, rfl, hs, ?_⟩, fun _ _ p hp => q _ _ _ (Grw.push s hp) ⟨p, _, rfl, .inl (.inl upd_same), ra.mono (same_upd (s.free hp))⟩⟩
  · rw [z] at ra; exact ra
  · rw [z, List.append_nil] at ra; exact ra
/-! ### slices -/
def cutD (xs : List D) (lo hi : Option Int) : List D := (xs.drop (HT.sIx xs.length 0 lo)).take (HT.sIx xs.length xs.length hi - HT.sIx xs.length 0 lo)
theorem RepL.cut {K : PySem.W.Frag} {B : Hp} {ds : List D} {vs : List V} (r : RepL K B ds vs) (lo hi : Option Int) : RepL K B (cutD ds lo hi) (cutV vs lo hi) := by
  unfold cutD cutV
  rw [r.length]
  exact (r.drop _).take _
/-- a slice's part -/
def wO (X : Cx) (e : Option Expr) : TO := fun σ H Q => ∀ (pins : List (Addr × Obj)) (s : Shared), Inv X pins σ H s → wpAny (model X.prog X.w) X.A (evalPart e X.env) (fun u s' => ∃ o H', Inv X pins σ H' s' ∧ IsPart u o ∧ Q o H') X.xe s
structure EvO (X : Cx) (e : Option Expr) (ρ : VE) (o : Option Int) (ρ' : VE) : Prop where
  run : ∀ (σ : L2.St) (B H : Hp) (Q : Option Int → Hp → Prop), EnvOk X.K B H σ ρ →
  (∀ B' H', EnvOk X.K B' H' σ ρ' → Go (Rt σ ρ) B H (Rt σ ρ') B' H' → Q o H') → wO X e σ H Q
instance {X : Cx} {e : Option Expr} {ρ : VE} {o : Option Int} {ρ' : VE} : CoeFun (EvO X e ρ o ρ') fun _ => ∀ (σ : L2.St) (B H : Hp) (Q : Option Int → Hp → Prop), EnvOk X.K B H σ ρ →
  (∀ B' H', EnvOk X.K B' H' σ ρ' → Go (Rt σ ρ) B H (Rt σ ρ') B' H' → Q o H') → wO X e σ H Q := ⟨EvO.run⟩
theorem po_w {e : Option Expr} : PO X e (wO X e) := ⟨fun pins s _ _ _ I h => h pins s I⟩
theorem eo_none : EvO X none ρ none ρ := .mk fun σ B H Q I q pins s II => po_none.run pins s σ H Q II (q B H I (Go.refl _ _ _))
theorem eo_some (h : EvD X e ρ (.fz (.int i)) ρ1) : EvO X (some e) ρ (some i) ρ1 := .mk fun σ B H Q I q pins s II => (po_some pe_w).run pins s σ H Q II (h σ B H _ I fun v B' H' I' g r => ⟨i, r, q B' H' I' g⟩)
variable {lo hi : Option Expr} {o1 o2 : Option Int} {p2 : Pos} {ρ3 : VE}
theorem ev_sliceL (ha : EvD X e ρ (.fz (.lst xs)) ρ1) (hl : EvO X lo ρ1 o1 ρ2) (hu : EvO X hi ρ2 o2 ρ3) : EvD X (.Subscript e (.Slice lo hi none p2) pos) ρ (.ow (.lst (cutD xs o1 o2))) ρ3 := .mk fun σ B H Q I q => by
  refine wE.of (pe_slice sl_list pe_w po_w po_w) (ha σ B H _ I fun v B1 H1 I1 g1 r1 => hl σ B1 H1 _ I1 fun B2 H2 I2 g2 => hu σ B2 H2 _ I2 fun B3 H3 I3 g3 => ?_)
  obtain ⟨a, vs, e, hs, r⟩ := r1
  have sB := (g2.bsub.trans g3.bsub)
  refine ⟨a, vs, e, .inl (.inl (I3.sub _ _ (sB _ _ hs))), fun p hp => ?_⟩
  obtain ⟨i1, i2, i3⟩ := fin_op (res := .ow (.lst (cutD xs o1 o2))) (u := .ref p) I3 ((g1.trans g2).trans g3) (Grw.own (o := .lst (cutV vs o1 o2)) I3.sub hp) ⟨p, rfl, ⟨I3.sub.free hp, _, upd_same, (r.mono sB).cut o1 o2⟩, hp⟩
  exact q _ _ _ i1 i2 i3
theorem ev_sliceS (ha : EvD X e ρ (.fz (.seq xs)) ρ1) (hl : EvO X lo ρ1 o1 ρ2) (hu : EvO X hi ρ2 o2 ρ3) : EvD X (.Subscript e (.Slice lo hi none p2) pos) ρ (.ow (.lst (cutD xs o1 o2))) ρ3 := .mk fun σ B H Q I q => by
  refine wE.of (pe_slice sl_list pe_w po_w po_w) (ha σ B H _ I fun v B1 H1 I1 g1 r1 => hl σ B1 H1 _ I1 fun B2 H2 I2 g2 => hu σ B2 H2 _ I2 fun B3 H3 I3 g3 => ?_)
  obtain ⟨a, vs, e, hs, r⟩ := r1
  have sB := (g2.bsub.trans g3.bsub)
  refine ⟨a, vs, e, I3.sub.seq (sB.seq hs), fun p hp => ?_⟩
  obtain ⟨i1, i2, i3⟩ := fin_op (res := .ow (.lst (cutD xs o1 o2))) (u := .ref p) I3 ((g1.trans g2).trans g3) (Grw.own (o := .lst (cutV vs o1 o2)) I3.sub hp) ⟨p, rfl, ⟨I3.sub.free hp, _, upd_same, (r.mono sB).cut o1 o2⟩, hp⟩
  exact q _ _ _ i1 i2 i3
theorem ev_sliceT (ha : EvD X e ρ (.fz (.tup xs)) ρ1) (hl : EvO X lo ρ1 o1 ρ2) (hu : EvO X hi ρ2 o2 ρ3) : EvD X (.Subscript e (.Slice lo hi none p2) pos) ρ (.fz (.tup (cutD xs o1 o2))) ρ3 := .mk fun σ B H Q I q => by
  refine wE.of (pe_slice sl_tupA pe_w po_w po_w) (ha σ B H _ I fun v B1 H1 I1 g1 r1 => hl σ B1 H1 _ I1 fun B2 H2 I2 g2 => hu σ B2 H2 _ I2 fun B3 H3 I3 g3 => ?_)
  obtain ⟨a, vs, e, hs, r⟩ := r1
  have sB := (g2.bsub.trans g3.bsub)
  have G := (g1.trans g2).trans g3
  have rc := (r.mono sB).cut o1 o2
  refine ⟨a, vs, e, same_t I3.sub (same_t sB hs), fun z => ?_, fun _ p hp => ?_⟩
  · refine q _ B3 H3 I3 G ⟨a, vs, rfl, same_t sB hs, ?_⟩
    have ec : cutV vs o1 o2 = vs := by
      unfold cutV
      rw [z.1, z.2]
      simp
    rw [ec] at rc
    exact rc
  · obtain ⟨i1, i2, i3⟩ := fin_op (res := .fz (.tup (cutD xs o1 o2))) (u := .ref p) I3 G (Grw.push (o := .tup (cutV vs o1 o2)) I3.sub hp) ⟨p, _, rfl, .inl (.inl upd_same), rc.mono (same_upd (I3.sub.free hp))⟩
    exact q _ _ _ i1 i2 i3

/-! ### built-ins -/
section
variable {x : Str} {id T : String} {rr : List V → Hp → VK → Prop} {res : Var}
theorem ev_B (hc : CallR X (.builtin id) rr) (hg : Gl X x) (hm : X.mg x = none) (hv : bootBuiltins x = some (.builtin id)) (ha : EvA X (e :: es) ρ xs ρ1) (hr : CallD X rr xs res) (hn : x ≠ "__name__" := by decide) (hdb : (x == ("__debug__" : Str)) = false := by decide)
    (he : starEach (e :: es) X.env = (false, eval e X.env) :: starEach es X.env := by first | exact star_cons rfl | rfl) (hpl : (backTo pos (starEach es X.env)).any (·.1) = false := by first | exact plain_star rfl | rfl) : EvD X (.Call (.Name x p) (e :: es) [] pos) ρ res ρ1 := ev_call1 (fun h => pe_callB hc hg hm hv h hn hdb he hpl) ha hr
theorem ev_Ty (hc : CallR X (.type T) rr) (hg : Gl X x) (hm : X.mg x = none) (hv : bootBuiltins x = some (.type T)) (ha : EvA X (e :: es) ρ xs ρ1) (hr : CallD X rr xs res) (hn : x ≠ "__name__" := by decide) (hdb : (x == ("__debug__" : Str)) = false := by decide)
    (he : starEach (e :: es) X.env = (false, eval e X.env) :: starEach es X.env := by first | exact star_cons rfl | rfl) (hpl : (backTo pos (starEach es X.env)).any (·.1) = false := by first | exact plain_star rfl | rfl) : EvD X (.Call (.Name x p) (e :: es) [] pos) ρ res ρ1 := ev_call1 (fun h => pe_callTy hc hg hm hv h hn hdb he hpl) ha hr
end
theorem RepL.one_of {K : PySem.W.Frag} {B : Hp} {d : D} {vs : List V} (r : RepL K B [d] vs) : ∃ v, vs = [v] ∧ Rep K B d v := by
  obtain ⟨v, w, e, h, z⟩ := r
  exact ⟨v, by rw [e, show w = [] from z], h⟩
/-- a sequence's items -/
def seqD : D → Option (List D)
  | .tup l => some l
  | .lst l => some l
  | .seq l => some l
  | _ => none
theorem rep_seq {K : PySem.W.Frag} {B H : Hp} (s : Same B H) : ∀ {x : D} {l : List D} {v : V}, seqD x = some l → Rep K B x v → ∃ a vs, v = .ref a ∧ (SqL K H a vs ∨ SqT K H a vs) ∧ RepL K B l vs
  | .tup _, _, _, e, ⟨a, vs, h1, h2, h3⟩ => by cases e; exact ⟨a, vs, h1, .inr (same_t s h2), h3⟩
  | .lst _, _, _, e, ⟨a, vs, h1, h2, h3⟩ => by cases e; exact ⟨a, vs, h1, .inl (.inl (.inl (s _ _ h2))), h3⟩
  | .seq _, _, _, e, ⟨a, vs, h1, h2, h3⟩ => by cases e; exact ⟨a, vs, h1, .inl (s.seq h2), h3⟩
  | .non, _, _, e, _ => by cases e
  | .bl _, _, _, e, _ => by cases e
  | .int _, _, _, e, _ => by cases e
  | .str _, _, _, e, _ => by cases e
  | .dk _ _, _, _, e, _ => by cases e
  | .dt _ _, _, _, e, _ => by cases e
  | .ins _ _ _, _, _, e, _ => by cases e
  | .raw _, _, _, e, _ => by cases e
  | .dz _ _, _, _, e, _ => by cases e
variable {l : List D}
theorem ev_len (hg : Gl X "len") (hm : X.mg "len" = none) (ha : EvA X [e] ρ [x] ρ1) (hx : seqD x = some l) (he : starEach [e] X.env = (false, eval e X.env) :: starEach [] X.env := by first | exact star_cons rfl | rfl) (hpl : (backTo pos (starEach [] X.env)).any (·.1) = false := by first | exact plain_star rfl | rfl) :
    EvD X (.Call (.Name "len" p) [e] [] pos) ρ (.fz (.int (l.length : Nat))) ρ1 := ev_B call_len_seq hg hm PySem.boot_len ha (fun vs B H Q s r q => by
      obtain ⟨v, e, r⟩ := r.one_of
      obtain ⟨a, ws, e2, h, rl⟩ := rep_seq s hx r
      exact ⟨a, ws, by rw [e, e2], h, q _ B H (Grw.refl s) (by rw [rl.length]; rfl)⟩) (by decide) (by decide) he hpl
theorem ev_list (hg : Gl X "list") (hm : X.mg "list" = none) (ha : EvA X [e] ρ [x] ρ1) (hx : seqD x = some l) (he : starEach [e] X.env = (false, eval e X.env) :: starEach [] X.env := by first | exact star_cons rfl | rfl) (hpl : (backTo pos (starEach [] X.env)).any (·.1) = false := by first | exact plain_star rfl | rfl) :
    EvD X (.Call (.Name "list" p) [e] [] pos) ρ (.ow (.lst l)) ρ1 := ev_Ty call_list_of hg hm (by decide +kernel) ha (fun vs B H Q s r q => by
      obtain ⟨v, e, r⟩ := r.one_of
      obtain ⟨a, ws, e2, h, rl⟩ := rep_seq s hx r
      exact ⟨a, ws, by rw [e, e2], h, fun p hp => q _ B _ (Grw.own s hp) ⟨p, rfl, ⟨s.free hp, _, upd_same, rl⟩, hp⟩⟩) (by decide) (by decide) he hpl
theorem ev_tuple (hg : Gl X "tuple") (hm : X.mg "tuple" = none) (ha : EvA X [e] ρ [.lst l] ρ1) (he : starEach [e] X.env = (false, eval e X.env) :: starEach [] X.env := by first | exact star_cons rfl | rfl) (hpl : (backTo pos (starEach [] X.env)).any (·.1) = false := by first | exact plain_star rfl | rfl) :
    EvD X (.Call (.Name "tuple" p) [e] [] pos) ρ (.fz (.tup l)) ρ1 := ev_Ty call_tuple_of hg hm (by decide +kernel) ha (fun vs B H Q s r q => by
      obtain ⟨v, e, a, ws, e2, h, rl⟩ := r.one_of
      exact ⟨a, ws, by rw [e, e2], .inl ⟨.inl (.inl (s _ _ h)), fun p hp => q _ _ _ (Grw.push s hp) ⟨p, ws, rfl, .inl (.inl upd_same), rl.mono (same_upd (s.free hp))⟩⟩⟩) (by decide) (by decide) he hpl
theorem ev_sum {l : List Int} (hg : Gl X "sum") (hm : X.mg "sum" = none) (hc : X.calm = true) (ha : EvA X [e] ρ [.lst (l.map .int)] ρ1) (he : starEach [e] X.env = (false, eval e X.env) :: starEach [] X.env := by first | exact star_cons rfl | rfl) (hpl : (backTo pos (starEach [] X.env)).any (·.1) = false := by first | exact plain_star rfl | rfl) :
    EvD X (.Call (.Name "sum" p) [e] [] pos) ρ (.fz (.int l.sum)) ρ1 := ev_B (cr_sum hc) hg hm (by decide +kernel) ha (fun vs B H Q s r q => by
      obtain ⟨v, e, a, ws, e2, h, rl⟩ := r.one_of
      exact ⟨a, l, by rw [e, e2], by rw [← rl.ints]; exact .inl (.inl (s _ _ h)), q _ B H (Grw.refl s) rfl⟩) (by decide) (by decide) he hpl
theorem ev_max {l : List Int} {m : Int} (hg : Gl X "max") (hm : X.mg "max" = none) (hc : X.calm = true) (ha : EvA X [e] ρ [.lst (l.map .int)] ρ1) (h1 : m ∈ l) (h2 : ∀ y ∈ l, y ≤ m) (he : starEach [e] X.env = (false, eval e X.env) :: starEach [] X.env := by first | exact star_cons rfl | rfl) (hpl : (backTo pos (starEach [] X.env)).any (·.1) = false := by first | exact plain_star rfl | rfl) :
    EvD X (.Call (.Name "max" p) [e] [] pos) ρ (.fz (.int m)) ρ1 := ev_B (cr_max hc) hg hm (by decide +kernel) ha (fun vs B H Q s r q => by
      obtain ⟨v, e, a, ws, e2, h, rl⟩ := r.one_of
      refine ⟨a, l, by rw [e, e2], by rw [← rl.ints]; exact .inl (.inl (s _ _ h)), List.length_pos_of_mem h1, fun m' k1 k2 => ?_⟩
      rw [show m' = m from Int.le_antisymm (h2 m' k1) (k2 m h1)]
      exact q _ B H (Grw.refl s) rfl) (by decide) (by decide) he hpl
theorem ev_min {l : List Int} {m : Int} (hg : Gl X "min") (hm : X.mg "min" = none) (hc : X.calm = true) (ha : EvA X [e] ρ [.lst (l.map .int)] ρ1) (h1 : m ∈ l) (h2 : ∀ y ∈ l, m ≤ y) (he : starEach [e] X.env = (false, eval e X.env) :: starEach [] X.env := by first | exact star_cons rfl | rfl) (hpl : (backTo pos (starEach [] X.env)).any (·.1) = false := by first | exact plain_star rfl | rfl) :
    EvD X (.Call (.Name "min" p) [e] [] pos) ρ (.fz (.int m)) ρ1 := ev_B (cr_min hc) hg hm (by decide +kernel) ha (fun vs B H Q s r q => by
      obtain ⟨v, e, a, ws, e2, h, rl⟩ := r.one_of
      refine ⟨a, l, by rw [e, e2], by rw [← rl.ints]; exact .inl (.inl (s _ _ h)), List.length_pos_of_mem h1, fun m' k1 k2 => ?_⟩
      rw [show m' = m from Int.le_antisymm (k2 m h1) (h2 m' k1)]
      exact q _ B H (Grw.refl s) rfl) (by decide) (by decide) he hpl
theorem RepL.bls {K : PySem.W.Frag} {B : Hp} : ∀ {l : List Bool} {vs : List V}, RepL K B (l.map D.bl) vs → vs = l.map V.bl
  | [], _, h => h
  | x :: r, _, ⟨v, q, h1, h2, h3⟩ => by
    subst h1
    rw [RepL.bls h3, show v = V.bl x from h2]
    rfl
theorem ev_all {l : List Bool} (hg : Gl X "all") (hm : X.mg "all" = none) (hc : X.calm = true) (ha : EvA X [e] ρ [.lst (l.map .bl)] ρ1) (he : starEach [e] X.env = (false, eval e X.env) :: starEach [] X.env := by first | exact star_cons rfl | rfl) (hpl : (backTo pos (starEach [] X.env)).any (·.1) = false := by first | exact plain_star rfl | rfl) :
    EvD X (.Call (.Name "all" p) [e] [] pos) ρ (.fz (.bl (l.all id))) ρ1 := ev_B (cr_all hc) hg hm (by decide +kernel) ha (fun vs B H Q s r q => by
      obtain ⟨v, e, a, ws, e2, h, rl⟩ := r.one_of
      exact ⟨a, l, by rw [e, e2], by rw [← rl.bls]; exact .inl (.inl (s _ _ h)), q _ B H (Grw.refl s) rfl⟩) (by decide) (by decide) he hpl
theorem ev_any {l : List Bool} (hg : Gl X "any") (hm : X.mg "any" = none) (hc : X.calm = true) (ha : EvA X [e] ρ [.lst (l.map .bl)] ρ1) (he : starEach [e] X.env = (false, eval e X.env) :: starEach [] X.env := by first | exact star_cons rfl | rfl) (hpl : (backTo pos (starEach [] X.env)).any (·.1) = false := by first | exact plain_star rfl | rfl) :
    EvD X (.Call (.Name "any" p) [e] [] pos) ρ (.fz (.bl (l.any id))) ρ1 := ev_B (cr_any hc) hg hm (by decide +kernel) ha (fun vs B H Q s r q => by
      obtain ⟨v, e, a, ws, e2, h, rl⟩ := r.one_of
      exact ⟨a, l, by rw [e, e2], by rw [← rl.bls]; exact .inl (.inl (s _ _ h)), q _ B H (Grw.refl s) rfl⟩) (by decide) (by decide) he hpl
theorem ev_intI (hg : Gl X "int") (hm : X.mg "int" = none) (ha : EvA X [e] ρ [.int i] ρ1) (he : starEach [e] X.env = (false, eval e X.env) :: starEach [] X.env := by first | exact star_cons rfl | rfl) (hpl : (backTo pos (starEach [] X.env)).any (·.1) = false := by first | exact plain_star rfl | rfl) :
    EvD X (.Call (.Name "int" p) [e] [] pos) ρ (.fz (.int i)) ρ1 := ev_Ty call_int1 hg hm (by decide +kernel) ha (fun vs B H Q s r q => by
      obtain ⟨v, e, r⟩ := r.one_of
      exact .inl ⟨i, by rw [e, show v = V.int i from r], q _ B H (Grw.refl s) rfl⟩) (by decide) (by decide) he hpl
end
end DL

/-! DL8: typed forms: whole numbers that are not negative, comprehensions of plain items, loops as folds. -/
namespace DL
open PySem PySem.Spec PyProof.Rows L2

abbrev eN (n : Nat) : D := .int (n : Int)
abbrev eTup {α : Type} (f : α → D) (l : List α) : D := .tup (l.map f)
abbrev eLst {α : Type} (f : α → D) (l : List α) : D := .lst (l.map f)
abbrev tI (l : List Int) : D := .tup (l.map .int)
theorem rngD0 (n : Nat) : rngD 0 n = (List.range n).map eN := by
  unfold rngD
  refine List.map_congr_left fun i _ => ?_
  rw [Int.zero_add]
section
variable {X : Cx} {e a b elt tg iter : Expr} {ifs : List Expr} {scope : Scope} {own : List (Str × Nat)} {es : List Expr} {ρ ρ1 ρ2 : VE} {d x y : D} {r : Var} {pos p : Pos} {i j m n : Nat} {js : List Nat} {α : Type}

/-! ### comprehensions -/
/-- [elt for tg in l if p]: nothing else changes -/
theorem lcP_iv {l : List α} {enc : α → D} {E : α → VE} {q : α → Bool} {f : α → D} {vs : List Nat} (hm : ∀ x ∈ l, mergeV ρ1 (E x) vs = ρ1)
    (hG : ∀ x ∈ l, InB X scope fun Y => XG Y tg js (enc x) (wipeV ρ1 vs) (· = E x)) (hT : ∀ x ∈ l, InB X scope fun Y => EvTs Y ifs (E x) (q x) (E x)) (hE : ∀ x ∈ l, q x = true → InB X scope fun Y => EvD Y elt (E x) (.fz (f x)) (E x))
    (i : Nat) (d : D) (ρ' : VE) (out : List D) (hd : (l.map enc)[i]? = some d) (k : ρ' = ρ1 ∧ out = ((l.take i).filter q).map f) :
    LcTurn X elt tg ifs scope vs js d ρ' out (fun ρ' out => ρ' = ρ1 ∧ out = ((l.take (i + 1)).filter q).map f) := by
  obtain ⟨rfl, rfl⟩ := k
  rw [List.getElem?_map] at hd
  obtain ⟨x, h1, rfl⟩ := Option.map_eq_some_iff.mp hd
  have hx : x ∈ l := List.mem_of_getElem? h1
  refine ⟨E x, q x, E x, hG x hx, hT x hx, fun h => ⟨f x, E x, hE x hx h, hm x hx, ?_⟩, fun h => ⟨hm x hx, ?_⟩⟩
  · rw [List.take_add_one, h1]
    simp [h]
  · rw [List.take_add_one, h1]
    simp [h]
theorem lcP_len {l : List α} {q : α → Bool} {f : α → D} (i : Nat) (ρ' : VE) (out : List D) (k : ρ' = ρ1 ∧ out = ((l.take i).filter q).map f) : out.length ≤ i := by
  rw [k.2, List.length_map]
  exact Nat.le_trans (List.length_filter_le ..) (by rw [List.length_take]; exact Nat.min_le_left ..)
theorem ev_lcP (l : List α) (enc : α → D) (E : α → VE) (q : α → Bool) (f : α → D) (hc : X.calm = true) (hN : X.N.Nodup) (hi : EvI X tg iter ρ (l.map enc) ρ1) (ok : BlkOk X.N X.env.scope scope own) (hjs : ∀ j, j ∈ js → j ∈ own.map (·.2))
    (hm : ∀ x ∈ l, mergeV ρ1 (E x) (own.map (·.2)) = ρ1) (hG : ∀ x ∈ l, InB X scope fun Y => XG Y tg js (enc x) (wipeV ρ1 (own.map (·.2))) (· = E x)) (hT : ∀ x ∈ l, InB X scope fun Y => EvTs Y ifs (E x) (q x) (E x)) (hE : ∀ x ∈ l, q x = true → InB X scope fun Y => EvD Y elt (E x) (.fz (f x)) (E x))
    (hz : l.length < sizeLine) (hfs : ∀ x, foldedSetIterable iter X.env x = pure x := by intro _; rfl) : EvD X (.ListComp elt [⟨tg, iter, ifs, 0⟩] scope pos) ρ (.ow (.lst ((l.filter q).map f))) ρ1 :=
  ev_lc hc hN hi ok (fun i ρ' out => ρ' = ρ1 ∧ out = ((l.take i).filter q).map f) ⟨rfl, rfl⟩ hjs (lcP_iv hm hG hT hE) (fun ρ' out k => ⟨k.1, by rw [k.2, List.length_map, List.take_length]⟩) (by rw [List.length_map]; exact hz) lcP_len hfs
theorem x1_setLcP (v : Nat) {nm : Str} {py lpos : Pos} {κ : KS} (l : List α) (enc : α → D) (E : α → VE) (q : α → Bool) (f : α → D) (hc : X.calm = true) (hN : X.N.Nodup) (hy : X.N[v]? = some nm) (hyl : X.env.scope.names.lookup nm = some .local)
    (hsw : swapsWith (.ListComp elt [⟨tg, iter, ifs, 0⟩] scope lpos) (some (.Name nm py)) pos.line X.env = pure true) (hi : EvI X tg iter ρ (l.map enc) ρ1) (ok : BlkOk X.N X.env.scope scope own) (hjs : ∀ j, j ∈ js → j ∈ own.map (·.2))
    (hm : ∀ x ∈ l, mergeV ρ1 (E x) (own.map (·.2)) = ρ1) (hG : ∀ x ∈ l, InB X scope fun Y => XG Y tg js (enc x) (wipeV ρ1 (own.map (·.2))) (· = E x)) (hT : ∀ x ∈ l, InB X scope fun Y => EvTs Y ifs (E x) (q x) (E x)) (hE : ∀ x ∈ l, q x = true → InB X scope fun Y => EvD Y elt (E x) (.fz (f x)) (E x))
    (hz : l.length < sizeLine) (k : κ.nx (ρ1.set v (.ow (.lst ((l.filter q).map f))))) (hl : decide (v < ρ1.length) = true := by rfl) (hio : isIo ρ1[v]? = false := by rfl) (io : IoK ρ ρ1 := by first | exact IoK.refl _ | exact ioK_ok rfl) (hfs : ∀ x, foldedSetIterable iter X.env x = pure x := by intro _; rfl) :
    X1 X (.Assign [.Name nm py] (.ListComp elt [⟨tg, iter, ifs, 0⟩] scope lpos) pos) ρ κ :=
  x1_setLc v hc hN hy hyl hsw hi ok (fun i ρ' out => ρ' = ρ1 ∧ out = ((l.take i).filter q).map f) ⟨rfl, rfl⟩ hjs (lcP_iv hm hG hT hE) (fun ρ' out k => ⟨k.1, by rw [k.2, List.length_map, List.take_length]⟩) (by rw [List.length_map]; exact hz) lcP_len k hl hio io hfs

/-! ### whole numbers that are not negative -/
theorem ev_natC {k : Nat} {pos : Pos} {n : Nat} : EvD X (.Constant (.int (n : Int)) k pos) ρ (.fz (eN n)) ρ := ev_int
theorem ev_addN (ha : EvD X a ρ (.fz (eN i)) ρ1) (hb : EvD X b ρ1 (.fz (eN j)) ρ2) : EvD X (.BinOp a .Add b pos) ρ (.fz (eN (i + j))) ρ2 := ev_as (ev_add ha hb) (by rw [eN, Int.natCast_add])
theorem ev_subN (ha : EvD X a ρ (.fz (eN i)) ρ1) (hb : EvD X b ρ1 (.fz (eN j)) ρ2) (h : j ≤ i) : EvD X (.BinOp a .Sub b pos) ρ (.fz (eN (i - j))) ρ2 := ev_as (ev_sub ha hb) (by rw [eN, Int.natCast_sub h])
theorem ev_mulN (ha : EvD X a ρ (.fz (eN i)) ρ1) (hb : EvD X b ρ1 (.fz (eN j)) ρ2) (h : i < 2 ^ 64) : EvD X (.BinOp a .Mult b pos) ρ (.fz (eN (i * j))) ρ2 := ev_as (ev_mul ha hb (.inl ⟨by omega, by omega⟩)) (by rw [eN, Int.natCast_mul])
theorem ev_divN (ha : EvD X a ρ (.fz (eN i)) ρ1) (hb : EvD X b ρ1 (.fz (eN j)) ρ2) (h : 0 < j ∧ j < 1073741824) : EvD X (.BinOp a .FloorDiv b pos) ρ (.fz (eN (i / j))) ρ2 := ev_as (ev_fdiv ha hb ⟨by omega, by omega⟩) (by rw [eN, Int.natCast_ediv])
theorem ev_modN (ha : EvD X a ρ (.fz (eN i)) ρ1) (hb : EvD X b ρ1 (.fz (eN j)) ρ2) (h : 0 < j) : EvD X (.BinOp a .Mod b pos) ρ (.fz (eN (i % j))) ρ2 := ev_as (ev_mod ha hb (by omega)) (by rw [eN, Int.natCast_emod])
theorem shl_cast (i j : Nat) : (i : Int) * 2 ^ (j : Int).toNat = ((i <<< j : Nat) : Int) := by
  rw [Int.toNat_natCast, Nat.shiftLeft_eq, Int.natCast_mul, Int.natCast_pow]
  rfl
theorem shr_cast (i j : Nat) : (i : Int) / 2 ^ (j : Int).toNat = ((i >>> j : Nat) : Int) := by
  rw [Int.toNat_natCast, Nat.shiftRight_eq_div_pow, Int.natCast_ediv, Int.natCast_pow]
  rfl
theorem ev_shlN (ha : EvD X a ρ (.fz (eN i)) ρ1) (hb : EvD X b ρ1 (.fz (eN j)) ρ2) (h : j ≤ 1000000) (h2 : i < 2 ^ 64) : EvD X (.BinOp a .LShift b pos) ρ (.fz (eN (i <<< j))) ρ2 := ev_as (ev_shl ha hb ⟨by omega, by omega, by omega⟩) (by rw [shl_cast])
theorem ev_shrN (ha : EvD X a ρ (.fz (eN i)) ρ1) (hb : EvD X b ρ1 (.fz (eN j)) ρ2) : EvD X (.BinOp a .RShift b pos) ρ (.fz (eN (i >>> j))) ρ2 := ev_as (ev_shr ha hb (by omega)) (by rw [shr_cast])
theorem ev_andN (ha : EvD X a ρ (.fz (eN i)) ρ1) (hb : EvD X b ρ1 (.fz (eN j)) ρ2) : EvD X (.BinOp a .BitAnd b pos) ρ (.fz (eN (i &&& j))) ρ2 := ev_as (ev_and ha hb) (by rw [bitAnd_pp (by omega) (by omega)]; rfl)
theorem ev_orN (ha : EvD X a ρ (.fz (eN i)) ρ1) (hb : EvD X b ρ1 (.fz (eN j)) ρ2) : EvD X (.BinOp a .BitOr b pos) ρ (.fz (eN (i ||| j))) ρ2 := ev_as (ev_or ha hb) (by rw [Bits.bitOr_pp (by omega) (by omega)]; rfl)
theorem ev_xorN (ha : EvD X a ρ (.fz (eN i)) ρ1) (hb : EvD X b ρ1 (.fz (eN j)) ρ2) : EvD X (.BinOp a .BitXor b pos) ρ (.fz (eN (i ^^^ j))) ρ2 := ev_as (ev_xor ha hb) (by rw [Bits.bitXor_pp (by omega) (by omega)]; rfl)
theorem cp_ltN (ha : EvD X a ρ (.fz (eN i)) ρ1) (hb : EvD X b ρ1 (.fz (eN j)) ρ2) : CpD X .Lt a b ρ (.fz (.bl (decide (i < j)))) ρ2 := cp_as (cp_lt ha hb) (by simp)
theorem cp_leN (ha : EvD X a ρ (.fz (eN i)) ρ1) (hb : EvD X b ρ1 (.fz (eN j)) ρ2) : CpD X .LtE a b ρ (.fz (.bl (decide (i ≤ j)))) ρ2 := cp_as (cp_le ha hb) (by simp)
theorem cp_gtN (ha : EvD X a ρ (.fz (eN i)) ρ1) (hb : EvD X b ρ1 (.fz (eN j)) ρ2) : CpD X .Gt a b ρ (.fz (.bl (decide (j < i)))) ρ2 := cp_as (cp_gt ha hb) (by simp)
theorem cp_geN (ha : EvD X a ρ (.fz (eN i)) ρ1) (hb : EvD X b ρ1 (.fz (eN j)) ρ2) : CpD X .GtE a b ρ (.fz (.bl (decide (j ≤ i)))) ρ2 := cp_as (cp_ge ha hb) (by simp)
theorem cp_eqN (ha : EvD X a ρ (.fz (eN i)) ρ1) (hb : EvD X b ρ1 (.fz (eN j)) ρ2) : CpD X .Eq a b ρ (.fz (.bl (decide (i = j)))) ρ2 := cp_as (cp_eqI ha hb) (by simp [Int.ofNat_inj])
theorem cp_neN (ha : EvD X a ρ (.fz (eN i)) ρ1) (hb : EvD X b ρ1 (.fz (eN j)) ρ2) : CpD X .NotEq a b ρ (.fz (.bl (!decide (i = j)))) ρ2 := cp_as (cp_neI ha hb) (by simp [Int.ofNat_inj])
theorem eN_map (l : List Nat) : l.map eN = (l.map Int.ofNat).map .int := by rw [List.map_map]; rfl
theorem sum_cast : ∀ l : List Nat, (l.map Int.ofNat).sum = (l.sum : Nat)
  | [] => rfl
  | x :: l => by rw [List.map_cons, List.sum_cons, sum_cast l, List.sum_cons, Int.natCast_add]; rfl
theorem ev_sumN {l : List Nat} (hg : Gl X "sum") (hm : X.mg "sum" = none) (hc : X.calm = true) (ha : EvA X [e] ρ [.lst (l.map eN)] ρ1) (he : starEach [e] X.env = (false, eval e X.env) :: starEach [] X.env := by first | exact star_cons rfl | rfl) (hpl : (backTo pos (starEach [] X.env)).any (·.1) = false := by first | exact plain_star rfl | rfl) :
    EvD X (.Call (.Name "sum" p) [e] [] pos) ρ (.fz (eN l.sum)) ρ1 := ev_as (ev_sum hg hm hc (by rw [← eN_map]; exact ha) he hpl) (by rw [sum_cast])
theorem ei_rangeN {x1 : Expr} (hg : Gl X "range") (hm : X.mg "range" = none) (h : EvA X [x1] ρ [eN n] ρ1) (hn : n < 2 ^ 62) (hs : starEach [x1] X.env = [(false, eval x1 X.env)] := by first | exact star_one rfl | rfl) : EvI X tg (.Call (.Name "range" p) [x1] [] pos) ρ ((List.range n).map eN) ρ1 := by
  have q := ei_rng1 (tg := tg) (p := p) (pos := pos) hg hm h ⟨by omega, by omega⟩ hs
  rw [Int.toNat_natCast, rngD0] at q
  exact q
theorem ea_1 (h : EvD X e ρ (.fz x) ρ1) (hs : starEach [e] X.env = (false, eval e X.env) :: starEach [] X.env := by first | exact star_cons rfl | rfl) : EvA X [e] ρ [x] ρ1 := ea_cons h ea_nil hs
end
end DL

/-! DL9: sorting tuples, empty ones too. -/
namespace DL
open PySem PySem.Calls PyProof.Rows PySem.W

section
variable {prog : Program} {w : World} {A : Around} {E : Value → Shared → Prop} {s : Shared}
theorem call_tuple_lt {Q : Value → Shared → Prop} {l b : Addr} {items items2 : Array Value} {e r : Nat → Bool} (hl : s.heap.IsTuple l items) (hb : s.heap.IsTuple b items2)
    (he : ∀ j (h1 : j < items.size) (h2 : j < items2.size), SeqAt.EqAt A.in1 s items[j] items2[j] (e j)) (hr : ∀ j (h1 : j < items.size) (h2 : j < items2.size), e j = false → SeqAt.RcLt A.in1 s items[j] items2[j] (r j))
    (h : Q (.bool (SeqAt.firstLt e r (decide (items.size < items2.size)) (List.range (min items.size items2.size)))) s) : wpAny (model prog w) A (call (.builtin "tuple.__lt__") [.ref l, .ref b]) Q E s := by
  obtain ⟨⟨cls, dd, data, sl⟩, ho, hc, n, hd⟩ := id hl
  obtain ⟨⟨cls2, dd2, data2, sl2⟩, ho2, hc2, n2, hd2⟩ := id hb
  simp only at hc hd hc2 hd2
  subst hc hd hc2 hd2
  exact call_meets F.slot_tuple_lt ⟨_, ho, rfl⟩ F.entry_tuple_lt (F.args_tuple_lt_2 _ _) (SeqAt.tuple_ltAt l b items items2 n n2 dd dd2 sl sl2 e r) ⟨ho, ho2, he, hr, h⟩
theorem oneLt_tup {xs ys : List PyData} {a b : Value} {as bs : List Addr} {Q : Bool → Shared → Prop} (ra : Reads s.heap a (.tuple xs) as) (rb : Reads s.heap b (.tuple ys) bs) (h : alike (.tuple xs) (.tuple ys) = true)
    (hu : A.units + min (PyData.tuple xs).depth (PyData.tuple ys).depth < cLine) (hq : Q (dataLt (.tuple xs) (.tuple ys)) s) : wpAny (model prog w) A (oneLt' true a b) Q E s := by
  have hal : alikeAll xs ys = true := by simpa [alike] using h
  cases ra with
  | @tuple l o vs n _ as₁ h1 h2 h3 h4 =>
    cases rb with
    | @tuple l' o' vs' n' _ bs₁ k1 k2 k3 k4 =>
      have n1 : vs.size = xs.length := by simpa using SeqAt.ReadsAll.length _ _ _ h4
      have n2 : vs'.size = ys.length := by simpa using SeqAt.ReadsAll.length _ _ _ k4
      rw [dataLt_tuple, ← firstLt_toks xs ys hal, ← n1, ← n2] at hq
      rw [oneLt'_eq]
      simp only [if_true]
      refine wpAny_bind (wpAny_cRoomFor (SeqAt.room_here hu) ?_)
      refine wpAny_bind (wpAny_callSpecialIfBound?_slot (T := "tuple") ⟨_, h1, h2⟩ F.slot_tuple_lt (call_tuple_lt (e := SeqAt.pairEq xs ys) (r := fun j => dataLt (xs.getD j .none) (ys.getD j .none)) ⟨_, h1, h2, _, h3⟩ ⟨_, k1, k2, _, k3⟩ (fun j j1 j2 => ?_) (fun j j1 j2 hj => ?_) ?_))
      · have := eqAt_alikeAll xs ys A.in1 s vs.toList vs'.toList _ _ h4 k4 hal (SeqAt.room_in hu) j (by simpa using j1) (by simpa using j2)
        simpa using this
      · have := rcLt_alikeAll xs ys A.in1 s vs.toList vs'.toList _ _ h4 k4 hal (SeqAt.room_in hu) j (by simpa using j1) (by simpa using j2) hj
        simpa using this
      · exact wpAny_truthy_bool hq
/-- a tuple with an item -/
def full : PyData → Bool
  | .tuple (_ :: _) => true
  | _ => false
/-- the first items -/
theorem firsts_run : ∀ {vs : List Value} {ds : List PyData} {Q : List (Option Value) → Shared → Prop}, EachIs (fun v d => ∃ as, Reads s.heap v d as) vs ds → (∀ d ∈ ds, ∃ xs, d = .tuple xs) →
    (∀ fs : List (Option Value), fs.map (·.isSome) = ds.map full → Q fs s) → wpAny (model prog w) A (vs.mapM firstOfTuple') Q E s
  | _, _, Q, .nil, _, h => by rw [List.mapM_nil]; exact wpAny_pure (h [] rfl)
  | _, _, Q, .cons (a := v) (b := d) (as := vs) (bs := ds) ⟨as, r⟩ t, ht, h => by
    obtain ⟨xs, e⟩ := ht d (List.mem_cons_self ..)
    subst e
    rw [List.mapM_cons]
    refine wpAny_bind ?_
    rw [kas_first_eq]
    cases r with
    | @tuple a o us n _ _ ho hc hd hr =>
      refine wpAny_bind (Looks.here (show Looks (model prog w) s.heap (typeOf (.ref a)) o.cls from (Looks.ld ho).andThen .now) ?_)
      rw [hc, if_neg (by first | decide | simp)]
      refine wpAny_bind (listItems_at ho hd (wpAny_pure ?_))
      refine wpAny_bind (firsts_run t (fun d hd => ht d (List.mem_cons_of_mem _ hd)) fun fs hf => wpAny_pure (h _ ?_))
      rw [List.map_cons, List.map_cons, hf]
      congr 1
      have hl := SeqAt.ReadsAll.length _ _ _ hr
      cases xs with
      | nil =>
        have : us.size = 0 := by simpa using hl
        simp [this, full]
      | cons x r =>
        have : us.size = r.length + 1 := by simpa using hl
        simp [this, full]
theorem decide_tup_ne {ds : List PyData} (h : ∀ d ∈ ds, ∃ xs, d = PyData.tuple xs) : (∀ d ∈ ds, ∃ x r, d = PyData.tuple (x :: r)) ∨ (ds.map full).all id = false := by
  by_cases q : (ds.map full).all id = true
  · left
    intro d hd
    obtain ⟨xs, e⟩ := h d hd
    subst e
    cases xs with
    | nil =>
      rw [List.all_map, List.all_eq_true] at q
      have := q _ hd
      simp [full] at this
    | cons x r => exact ⟨x, r, rfl⟩
  · right
    simpa using q
theorem SortsAt.tups {vs : List Value} {ds : List PyData} (e : EachIs (fun v d => ∃ as, Reads s.heap v d as) vs ds) (hal : AllAlike ds) (ht : ∀ d ∈ ds, ∃ xs, d = PyData.tuple xs) (hu : ∀ d, d ∈ ds → A.units + d.depth < cLine) : SortsAt prog w A s (dataKind s.heap ds) vs := by
  rcases decide_tup_ne ht with h | h
  · exact SortsAt.data e hal (.inl h) hu
  have room : ∀ {d d' : PyData}, d ∈ ds → A.units + min d.depth d'.depth < cLine := fun {d d'} hd => Nat.lt_of_le_of_lt (Nat.add_le_add_left (Nat.min_le_left _ _) _) (hu d hd)
  refine ⟨fun v hv => ?_, ?_⟩
  · obtain ⟨d, hd, as, r⟩ := e.left v hv
    exact ⟨_, dataKind_some hal hd r⟩
  have L1 : H.LtAt prog w A s (dataKind s.heap ds) oneType' := by
    intro E x y a b Q ha hb hq
    obtain ⟨d, as, hd, ra, rfl⟩ := dataKind_inv ha
    obtain ⟨d', as', hd', rb, rfl⟩ := dataKind_inv hb
    rw [keyLt'_oneType]
    obtain ⟨xs, rfl⟩ := ht d hd
    obtain ⟨ys, rfl⟩ := ht d' hd'
    exact oneLt_tup ra rb (hal _ hd _ hd') (room hd) hq
  have L2 : H.LtAt prog w A s (dataKind s.heap ds) general' := by
    intro E x y a b Q ha hb hq
    obtain ⟨d, as, hd, ra, rfl⟩ := dataKind_inv ha
    obtain ⟨d', as', hd', rb, rfl⟩ := dataKind_inv hb
    show wpAny _ _ (oneLt' false x y) Q E s
    exact oneLt_alike (fun z => by cases z) ra rb (hal _ hd _ hd') (by obtain ⟨xs, rfl⟩ := ht d hd; simp) (room hd) hq
  have K0 : ∀ (E : Value → Shared → Prop) {Q : SortKind → Shared → Prop}, Q (if (ds.map full).head? = some true then general' else oneType') s → wpAny (model prog w) A (keyKind' vs.toArray) Q E s := by
    intro E Q hq
    rw [kat_kind_eq, List.mapM_toArray, map_eq_pure_bind]
    refine wpAny_bind (wpAny_bind (firsts_run e ht fun fs hf => wpAny_pure ?_))
    have hall : (fs.toArray.all fun x => x.isSome) = false := by
      rw [← hf] at h
      rw [List.all_toArray]
      rw [List.all_map] at h
      exact h
    rw [if_neg (by rw [hall]; simp)]
    have h0 : (fs.toArray[0]?.bind id).isSome = decide ((ds.map full).head? = some true) := by
      rw [← hf]
      cases fs with
      | nil => simp
      | cons f fs => cases f <;> simp
    rw [h0]
    by_cases q : (ds.map full).head? = some true
    · rw [if_pos q] at hq
      simp only [q, decide_true, if_true]
      exact wpAny_pure hq
    · rw [if_neg q] at hq
      simp only [q, decide_false, Bool.false_eq_true, if_false]
      rw [oneTypeOnly'_eq, List.mapM_toArray, map_eq_pure_bind]
      refine wpAny_bind (wpAny_bind (wpAny_bind (kas_mapM (r := Value.type "tuple") _ (fun v hv Q' hq => ?_) (wpAny_pure ?_))))
      · obtain ⟨d, hd, as, r⟩ := e.left v hv
        obtain ⟨xs, rfl⟩ := ht d hd
        exact (looks_reads r).here hq
      · have hne : vs ≠ [] := fun z => by
          subst z
          cases e
          simp at h
        obtain ⟨v, vr, rfl⟩ := List.exists_cons_of_ne_nil hne
        have hall2 : ((List.map (fun _ => Value.type "tuple") (v :: vr)).toArray.all fun x => x == Value.type "tuple") = true := by
          simp only [List.all_toArray, List.all_map, List.all_eq_true]
          intro _ _
          exact beq_self_eq_true _
        have h0 : (List.map (fun _ => Value.type "tuple") (v :: vr)).toArray[0]? = some (Value.type "tuple") := by simp
        rw [h0]
        simp only [hall2, if_true]
        exact wpAny_pure (wpAny_pure hq)
  by_cases q : (ds.map full).head? = some true
  · exact ⟨general', L2, fun _ E Q hq => K0 E (by rw [if_pos q]; exact hq)⟩
  · exact ⟨oneType', L1, fun _ E Q hq => K0 E (by rw [if_neg q]; exact hq)⟩
end
end DL

/-! DL10: typed data: equality, order, sorted, min, max. -/
namespace DL
open PySem PySem.Spec PyProof.Rows L2 PySem.W

/-- how values of a type are told: their equality and order are Python's -/
structure Dat {α : Type} [DecidableEq α] (enc : α → D) (lt : α → α → Bool) (n : Nat) : Prop where
  pure : ∀ x, (enc x).pure = true
  imm : ∀ x, (enc x).imm = true
  al : ∀ x y, alike (enc x).py (enc y).py = true
  lt : ∀ x y, dataLt (enc x).py (enc y).py = lt x y
  eqv : ∀ x y, PyData.eqv (enc x).py (enc y).py = decide (x = y)
  dep : ∀ x, (enc x).py.depth ≤ n
  nn : ∀ x, (enc x).py ≠ .none
  srt : (∀ x, ∃ xs, (enc x).py = .tuple xs) ∨ ∀ x xs, (enc x).py ≠ .tuple xs
abbrev ltN (a b : Nat) : Bool := decide (a < b)
abbrev ltI (a b : Int) : Bool := decide (a < b)
def lexL {α : Type} [DecidableEq α] (lt : α → α → Bool) : List α → List α → Bool
  | [], [] => false
  | [], _ :: _ => true
  | _ :: _, [] => false
  | x :: xs, y :: ys => if x = y then lexL lt xs ys else lt x y
theorem Dat.int : Dat D.int ltI 0 where
  pure _ := rfl
  imm _ := rfl
  al _ _ := by simp [D.py, alike]
  lt x y := dataLt_int x y
  eqv x y := by simp [D.py, PyData.eqv]; rfl
  dep _ := Nat.le_refl _
  nn _ := by simp [D.py]
  srt := .inr fun _ _ => by simp [D.py]
theorem Dat.nat : Dat eN ltN 0 where
  pure _ := rfl
  imm _ := rfl
  al _ _ := by simp [D.py, alike]
  lt x y := by rw [show dataLt (eN x).py (eN y).py = _ from dataLt_int x y]; simp
  eqv x y := by rw [show PyData.eqv (eN x).py (eN y).py = _ from Dat.int.eqv x y]; simp [Int.ofNat_inj]
  dep _ := Nat.le_refl _
  nn _ := by simp [D.py]
  srt := .inr fun _ _ => by simp [D.py]
section
variable {α : Type} [DecidableEq α] {enc : α → D} {lt : α → α → Bool} {n : Nat}
theorem Dat.pureL (h : Dat enc lt n) : ∀ l : List α, D.pureL (l.map enc) = true
  | [] => rfl
  | x :: l => by rw [List.map_cons, D.pureL, h.pure, Dat.pureL h l]; rfl
theorem Dat.immL (h : Dat enc lt n) : ∀ l : List α, D.immL (l.map enc) = true
  | [] => rfl
  | x :: l => by rw [List.map_cons, D.immL, h.imm, Dat.immL h l]; rfl
theorem Dat.alL (h : Dat enc lt n) : ∀ l m : List α, alikeAll (D.pyL (l.map enc)) (D.pyL (m.map enc)) = true
  | [], m => by cases m <;> simp [D.pyL, alikeAll]
  | x :: l, [] => by simp [D.pyL, alikeAll]
  | x :: l, y :: m => by
    simp only [List.map_cons, D.pyL, alikeAll]
    rw [h.al, Dat.alL h l m]
    rfl
theorem Dat.eqL (h : Dat enc lt n) : ∀ l m : List α, PyData.eqvAll (D.pyL (l.map enc)) (D.pyL (m.map enc)) = decide (l = m)
  | [], [] => by simp [D.pyL, PyData.eqvAll]
  | [], y :: m => by simp [D.pyL, PyData.eqvAll]
  | x :: l, [] => by simp [D.pyL, PyData.eqvAll]
  | x :: l, y :: m => by
    simp only [List.map_cons, D.pyL, PyData.eqvAll]
    rw [h.eqv, Dat.eqL h l m]
    by_cases h1 : x = y <;> by_cases h2 : l = m <;> simp [h1, h2]
theorem Dat.ltL (h : Dat enc lt n) : ∀ l m : List α, rowLt (D.pyL (l.map enc)) (D.pyL (m.map enc)) = lexL lt l m
  | [], [] => lex_irrefl _
  | [], y :: m => by
    unfold rowLt
    simp only [List.map_cons, List.map_nil, D.pyL]
    rw [toks_all_cons]
    simp only [keyToksAll]
    rw [lex_diff (O := itemOrd) (by simp)]
    rfl
  | x :: l, [] => by
    unfold rowLt
    simp only [List.map_cons, List.map_nil, D.pyL]
    rw [toks_all_cons]
    simp only [keyToksAll]
    rw [lex_diff (O := itemOrd) (by simp)]
    rfl
  | x :: l, y :: m => by
    have ih := Dat.ltL h l m
    unfold rowLt at ih ⊢
    simp only [List.map_cons, D.pyL]
    rw [dataLt_cons (h.al x y), ih, h.eqv, h.lt]
    show _ = if x = y then lexL lt l m else lt x y
    by_cases e : x = y <;> simp [e]
theorem Dat.depL (h : Dat enc lt n) : ∀ l : List α, PyData.depthAll (D.pyL (l.map enc)) ≤ n
  | [] => by simp [D.pyL, PyData.depthAll]
  | x :: l => by
    simp only [List.map_cons, D.pyL, PyData.depthAll]
    exact Nat.max_le.mpr ⟨h.dep x, Dat.depL h l⟩
theorem Dat.tup (h : Dat enc lt n) : Dat (eTup enc) (lexL lt) (n + 1) where
  pure l := h.pureL l
  imm l := h.immL l
  al l m := by
    show alike (.tuple _) (.tuple _) = true
    simp only [alike]
    exact h.alL l m
  lt l m := (dataLt_tuple _ _).trans (h.ltL l m)
  eqv l m := by
    show PyData.eqv (.tuple _) (.tuple _) = _
    simp only [PyData.eqv]
    exact h.eqL l m
  dep l := by
    show PyData.depth (.tuple _) ≤ _
    have := h.depL l
    simp only [PyData.depth]
    omega
  nn l := by simp [D.py]
  srt := .inl fun l => ⟨_, rfl⟩
/-! ### a pair -/
variable {β : Type} [DecidableEq β] {enc2 : β → D} {lt2 : β → β → Bool}
abbrev eP (enc : α → D) (enc2 : β → D) (x : α × β) : D := .tup [enc x.1, enc2 x.2]
theorem Dat.pair (h : Dat enc lt n) (k : Dat enc2 lt2 n) : Dat (eP enc enc2) (fun x y => if x.1 = y.1 then (if x.2 = y.2 then false else lt2 x.2 y.2) else lt x.1 y.1) (n + 1) where
  pure x := by simp [D.pure, D.pureL, h.pure, k.pure]
  imm x := by simp [D.imm, D.immL, h.imm, k.imm]
  al x y := by
    show alike (.tuple [_, _]) (.tuple [_, _]) = true
    simp only [alike, alikeAll]
    rw [h.al, k.al]
    rfl
  lt x y := by
    rw [show dataLt (eP enc enc2 x).py (eP enc enc2 y).py = _ from dataLt_pair (h.al x.1 y.1) (k.al x.2 y.2), h.eqv, k.eqv, h.lt, k.lt]
    simp
  eqv x y := by
    show PyData.eqv (.tuple [_, _]) (.tuple [_, _]) = _
    simp only [PyData.eqv, PyData.eqvAll]
    rw [h.eqv, k.eqv]
    obtain ⟨a, b⟩ := x
    obtain ⟨c, d⟩ := y
    by_cases h1 : a = c <;> by_cases h2 : b = d <;> simp [h1, h2]
  dep x := by
    have := h.dep x.1
    have := k.dep x.2
    show PyData.depth (.tuple [_, _]) ≤ _
    simp only [PyData.depth, PyData.depthAll]
    omega
  nn l := by simp [D.py]
  srt := .inl fun l => ⟨_, rfl⟩

/-! ### == and < -/
variable {X : Cx} {e a b : Expr} {ρ ρ1 ρ2 : VE} {pos p : Pos} {x y : α}
theorem cp_eqT (G : Dat enc lt n) (hn : n ≤ 64) (hu : X.A.units + 64 < cLine) (ha : EvD X a ρ (.fz (enc x)) ρ1) (hb : EvD X b ρ1 (.fz (enc y)) ρ2) : CpD X .Eq a b ρ (.fz (.bl (decide (x = y)))) ρ2 :=
  cp_as (cp_eqD ha hb hu (G.pure x) (G.pure y) (Nat.le_trans (G.dep x) hn) (Nat.le_trans (G.dep y) hn)) (by rw [G.eqv])
theorem cp_neT (G : Dat enc lt n) (hn : n ≤ 64) (hu : X.A.units + 64 < cLine) (ha : EvD X a ρ (.fz (enc x)) ρ1) (hb : EvD X b ρ1 (.fz (enc y)) ρ2) : CpD X .NotEq a b ρ (.fz (.bl (!decide (x = y)))) ρ2 :=
  cp_as (cp_neD ha hb hu (G.pure x) (G.pure y) (Nat.le_trans (G.dep x) hn) (Nat.le_trans (G.dep y) hn)) (by rw [G.eqv])
def rLtD (K : PySem.W.Frag) (n : Nat) : R2 := fun x y H Q => ∃ d e, Dp K H x d ∧ Dp K H y e ∧ alike d e = true ∧ d ≠ .none ∧ d.depth ≤ n ∧ Q (.bl (dataLt d e)) H
theorem op_ltD (hn : n ≤ 64) (hu : X.A.units + 64 < cLine) : OpR X (compareOp .Lt) (rLtD X.K n) := by
  intro pins s σ H x y v u Q I rx ry h
  obtain ⟨d, e, hd, he, al, nn, dp, q⟩ := h
  obtain ⟨as, r1⟩ := Dp.reads I d x v hd rx
  obtain ⟨bs, r2⟩ := Dp.reads I e y u he ry
  exact lt_data r1 r2 al nn (by have := Nat.min_le_left d.depth e.depth; omega) ⟨.bl _, H, I, rfl, q⟩
theorem cp_ltT (G : Dat enc lt n) (hn : n ≤ 64) (hu : X.A.units + 64 < cLine) (ha : EvD X a ρ (.fz (enc x)) ρ1) (hb : EvD X b ρ1 (.fz (enc y)) ρ2) : CpD X .Lt a b ρ (.fz (.bl (lt x y))) ρ2 :=
  cp_op (op_ltD hn hu) ha hb fun v w B H Q s hv hw q => ⟨(enc x).py, (enc y).py, Rep.dp (G.pure x) (hv.mono s), Rep.dp (G.pure y) (hw.mono s), G.al x y, G.nn x, G.dep x, q _ B H (Grw.refl s) (by rw [G.lt]; rfl)⟩

/-! ### sorted -/
abbrev leOf (lt : α → α → Bool) (a b : α) : Bool := !lt b a
abbrev srtL (lt : α → α → Bool) (l : List α) : List α := l.mergeSort (leOf lt)
def rSrt (K : PySem.W.Frag) (enc : α → D) (lt : α → α → Bool) (l : List α) : List V → Hp → VK → Prop := fun vs H Q => ∃ (B : Hp) (a : Addr) (xs : List V), vs = [V.ref a] ∧ Same B H ∧ SqL K H a xs ∧ RepL K B (l.map enc) xs ∧ l.length ≤ sizeLine ∧
  ∀ p ys, H p = none → RepL K B ((srtL lt l).map enc) ys → Q (.ref p) (upd H p (.lst ys))
theorem each_of {K : PySem.W.Frag} {B : Hp} : ∀ {l : List α} {xs : List V} {us : List Value}, RepL K B (l.map enc) xs → Vals xs us → EachIs (fun v (b : α) => ∃ y : V, RelV y v ∧ Rep K B (enc b) y) us l
  | [], _, _, h, r => by
    rw [show _ = [] from h] at r
    cases r
    exact .nil
  | x :: l, _, _, ⟨v, q, e, h1, h2⟩, r => by
    subst e
    cases r with
    | cons r1 r2 => exact .cons ⟨v, r1, h1⟩ (each_of h2 r2)
theorem of_each {K : PySem.W.Frag} {B : Hp} : ∀ {l : List α} {us : List Value}, EachIs (fun v (b : α) => ∃ y : V, RelV y v ∧ Rep K B (enc b) y) us l → ∃ xs, RepL K B (l.map enc) xs ∧ Vals xs us
  | _, _, .nil => ⟨[], rfl, .nil⟩
  | _, _, .cons ⟨y, r1, h1⟩ t => by
    obtain ⟨xs, h2, r2⟩ := of_each t
    exact ⟨y :: xs, ⟨y, xs, rfl, h1, h2⟩, .cons r1 r2⟩
theorem cr_srt (G : Dat enc lt n) (hn : n ≤ 60) (hu : X.A.units + 64 < cLine) {l : List α} : CallR X (.builtin "sorted") (rSrt X.K enc lt l) := by
  intro pins s σ H vs us Q I r h
  obtain ⟨B, a, xs, rfl, hs, hq, rl, hz, q⟩ := h
  obtain ⟨its, rv, hl, _⟩ := I.list hq
  rw [Vals.ref1 r]
  have E1 := each_of rl rv
  have E2 : EachIs (fun v b => ∃ as, Reads s.heap v (enc b).py as) its l := E1.mono fun v b ⟨y, ry, rp⟩ => Dp.reads I _ y v (Rep.dp (G.pure b) (rp.mono hs)) ry
  have hlen : its.length = l.length := E1.length
  have E3 : EachIs (fun v d => ∃ as, Reads (sortingHeap (copyHeap s.heap its) (s.heap.objs.size + 1) its) v d as) its (l.map fun b => (enc b).py) :=
    each_map (R := fun v d => ∃ as, Reads (sortingHeap (copyHeap s.heap its) (s.heap.objs.size + 1) its) v d as) (fun b => (enc b).py) (E2.mono fun _ _ ⟨as, r⟩ => ⟨as, PyProof.Rows.Reads.keeps (fun _ _ => sorting_copy_old) r⟩)
  have hal : AllAlike (l.map fun b => (enc b).py) := AllAlike.of G.al
  have hdu : ∀ d ∈ l.map (fun b => (enc b).py), X.A.in1.in1.units + d.depth < cLine := fun d hd => by
    obtain ⟨b, _, rfl⟩ := List.mem_map.mp hd
    have := G.dep b
    show X.A.units + 1 + 1 + _ < _
    omega
  have S : SortsAt X.prog X.w X.A.in1.in1 { s with heap := sortingHeap (copyHeap s.heap its) (s.heap.objs.size + 1) its } (dataKind (sortingHeap (copyHeap s.heap its) (s.heap.objs.size + 1) its) (l.map fun b => (enc b).py)) its := by
    rcases G.srt with ht | hn'
    · exact SortsAt.tups (s := { s with heap := sortingHeap (copyHeap s.heap its) (s.heap.objs.size + 1) its }) E3 hal (fun d hd => by obtain ⟨b, _, rfl⟩ := List.mem_map.mp hd; exact ht b) hdu
    · exact SortsAt.data (s := { s with heap := sortingHeap (copyHeap s.heap its) (s.heap.objs.size + 1) its }) E3 hal (Sortable.others fun b => ⟨G.nn b, hn' b⟩) hdu
  refine sorted_vals hl.isList S (by omega) ?_
  have EO := sortVals_data (h' := sortingHeap (copyHeap s.heap its) (s.heap.objs.size + 1) its) (R := fun v (b : α) => ∃ y : V, RelV y v ∧ Rep X.K B (enc b) y) (enc := fun b => (enc b).py) false E1 (E2.mono fun _ _ ⟨as, r⟩ => ⟨as, PyProof.Rows.Reads.keeps (fun _ _ => sorting_copy_old) r⟩) hal
  have el : dataLe false (fun b => (enc b).py) = leOf lt := by
    funext x y
    show (!dataLt (enc y).py (enc x).py) = !lt y x
    rw [G.lt]
  rw [el] at EO
  obtain ⟨ys, h1, h2⟩ := of_each EO
  obtain ⟨ep, he'⟩ := PyProof.Rows.sortedAll_at s.heap its (sortVals (dataKind (sortingHeap (copyHeap s.heap its) (s.heap.objs.size + 1) its) (l.map fun b => (enc b).py)) false its its).toArray
  have hyl : ys.length ≤ sizeLine := by
    have := h1.length
    rw [List.length_map, List.length_mergeSort] at this
    omega
  exact ⟨.ref _, upd H (s.heap.objs.size + 1) (.lst ys), I.laid (t' := s.toks) (fun _ _ => PyProof.Rows.sortedAll_old) (Nat.le_succ _) ⟨hyl, _, ep, h2, he'⟩, rfl, q _ _ (I.hok.fresh (Nat.le_succ _)) h1⟩
theorem ev_sorted (G : Dat enc lt n) (hn : n ≤ 60) (hu : X.A.units + 64 < cLine) {l : List α} (hg : Gl X "sorted") (hm : X.mg "sorted" = none) (ha : EvA X [e] ρ [eLst enc l] ρ1) (hz : l.length ≤ sizeLine) (he : starEach [e] X.env = (false, eval e X.env) :: starEach [] X.env := by first | exact star_cons rfl | rfl) (hpl : (backTo pos (starEach [] X.env)).any (·.1) = false := by first | exact plain_star rfl | rfl) :
    EvD X (.Call (.Name "sorted" p) [e] [] pos) ρ (.ow (eLst enc (srtL lt l))) ρ1 := ev_B (cr_srt (l := l) G hn hu) hg hm (by decide +kernel) ha (fun vs B H Q s r q => by
      obtain ⟨v, e, a, ws, e2, h, rl⟩ := r.one_of
      refine ⟨B, a, ws, by rw [e, e2], s, .inl (.inl (s _ _ h)), rl, hz, fun p ys hp ry => ?_⟩
      exact q _ B _ (Grw.own s hp) ⟨p, rfl, ⟨s.free hp, ys, upd_same, ry⟩, hp⟩) (by decide) (by decide) he hpl

/-! ### min, max -/
def minT (lt : α → α → Bool) (x : α) (xs : List α) : α := xs.foldl (fun a y => if lt y a then y else a) x
def maxT (lt : α → α → Bool) (x : α) (xs : List α) : α := xs.foldl (fun a y => if lt a y then y else a) x
def minL [Inhabited α] (lt : α → α → Bool) : List α → α
  | [] => default
  | x :: xs => minT lt x xs
def maxL [Inhabited α] (lt : α → α → Bool) : List α → α
  | [] => default
  | x :: xs => maxT lt x xs
theorem Dat.minT (G : Dat enc lt n) : ∀ (xs : List α) (x : α), minD (enc x).py (xs.map fun b => (enc b).py) = (enc (DL.minT lt x xs)).py
  | [], x => rfl
  | y :: xs, x => by
    have ih := Dat.minT G xs (if lt y x then y else x)
    unfold minD DL.minT at ih ⊢
    rw [List.map_cons, List.foldl_cons, List.foldl_cons, ← ih, G.lt]
    by_cases h : lt y x = true <;> simp [h]
theorem Dat.maxT (G : Dat enc lt n) : ∀ (xs : List α) (x : α), maxD (enc x).py (xs.map fun b => (enc b).py) = (enc (DL.maxT lt x xs)).py
  | [], x => rfl
  | y :: xs, x => by
    have ih := Dat.maxT G xs (if lt x y then y else x)
    unfold maxD DL.maxT at ih ⊢
    rw [List.map_cons, List.foldl_cons, List.foldl_cons, ← ih, G.lt]
    by_cases h : lt x y = true <;> simp [h]
theorem RepL.reads (G : Dat enc lt n) {pins : List (Addr × Obj)} {σ : L2.St} {H B : Hp} {s : Shared} (I : Inv X pins σ H s) (hs : Same B H) {l : List α} {xs : List V} {us : List Value} (rl : RepL X.K B (l.map enc) xs) (rv : Vals xs us) : ∃ as, ReadsAll s.heap us (l.map fun b => (enc b).py) as :=
  each_readsAll _ ((each_of rl rv).mono fun v b ⟨y, ry, rp⟩ => Dp.reads I _ y v (Rep.dp (G.pure b) (rp.mono hs)) ry)
theorem each_at {K : PySem.W.Frag} {B : Hp} : ∀ {l : List α} {us : List Value} {i : Nat} {v : Value}, EachIs (fun v (b : α) => ∃ y : V, RelV y v ∧ Rep K B (enc b) y) us l → us[i]? = some v → ∃ b y, b ∈ l ∧ RelV y v ∧ Rep K B (enc b) y
  | _, _, _, _, .nil, h => by simp at h
  | _, _, 0, _, .cons (b := b) ⟨y, r, rp⟩ t, h => by
    simp at h
    subst h
    exact ⟨b, y, List.mem_cons_self .., r, rp⟩
  | _, _, i + 1, _, .cons _ t, h => by
    obtain ⟨b, y, hb, r, rp⟩ := each_at (i := i) t (by simpa using h)
    exact ⟨b, y, List.mem_cons_of_mem _ hb, r, rp⟩
def rMnD (K : PySem.W.Frag) (enc : α → D) (l : List α) (m : α) : List V → Hp → VK → Prop := fun vs H Q => ∃ (B : Hp) (a : Addr) (xs : List V), vs = [V.ref a] ∧ Same B H ∧ SqL K H a xs ∧ RepL K B (l.map enc) xs ∧ ∀ y, Rep K B (enc m) y → Q y H
theorem cr_mn (G : Dat enc lt n) (hn : n ≤ 60) (hu : X.A.units + 64 < cLine) (hc : X.calm = true) {z : α} {l : List α} : CallR X (.builtin "min") (rMnD X.K enc (z :: l) (DL.minT lt z l)) := by
  intro pins s σ H vs us Q I r h
  obtain ⟨B, a, xs, rfl, hs, hq, rl, q⟩ := h
  obtain ⟨its, rv, hl, _⟩ := I.list hq
  rw [Vals.ref1 r]
  obtain ⟨as, ra⟩ := RepL.reads G I hs rl rv
  have dl := G.depL (z :: l)
  rw [D.pyL_map, List.map_map] at dl
  refine min_list_data (x := (enc z).py) (xs := l.map fun b => (enc b).py) (I.ok.hd hc) hl.isList (by simpa using ra) ⟨fun x hx y hy => ?_, fun x hx => ?_⟩ ?_ fun i v h' tk bs hv hr hk => ?_
  · obtain ⟨b, _, rfl⟩ := List.mem_map.mp (show x ∈ (z :: l).map (fun b => (enc b).py) from hx)
    obtain ⟨c, _, rfl⟩ := List.mem_map.mp (show y ∈ (z :: l).map (fun b => (enc b).py) from hy)
    exact G.al b c
  · obtain ⟨b, _, rfl⟩ := List.mem_map.mp (show x ∈ (z :: l).map (fun b => (enc b).py) from hx)
    exact G.nn b
  · have : PyData.depthAll ((enc z).py :: l.map fun b => (enc b).py) ≤ n := dl
    omega
  · obtain ⟨b, y, _, ry, rp⟩ := each_at (i := i) (each_of rl rv) (by simpa using hv)
    obtain ⟨cs, rd⟩ := Dp.reads I _ y v (Rep.dp (G.pure b) (rp.mono hs)) ry
    have rd' := PyProof.Rows.Reads.keeps hk rd
    rw [G.minT] at hr
    have e1 := alike_unique _ _ _ _ _ (G.al b (DL.minT lt z l)) rd' hr
    have e2 := G.eqv b (DL.minT lt z l)
    rw [e1, G.eqv] at e2
    have e3 : b = DL.minT lt z l := by simpa using e2.symm
    rw [e3] at rp
    exact ⟨y, H, I.kept hk, ry, q y rp⟩
theorem cr_mx (G : Dat enc lt n) (hn : n ≤ 60) (hu : X.A.units + 64 < cLine) (hc : X.calm = true) {z : α} {l : List α} : CallR X (.builtin "max") (rMnD X.K enc (z :: l) (DL.maxT lt z l)) := by
  intro pins s σ H vs us Q I r h
  obtain ⟨B, a, xs, rfl, hs, hq, rl, q⟩ := h
  obtain ⟨its, rv, hl, _⟩ := I.list hq
  rw [Vals.ref1 r]
  obtain ⟨as, ra⟩ := RepL.reads G I hs rl rv
  have dl := G.depL (z :: l)
  rw [D.pyL_map, List.map_map] at dl
  refine max_list_data (x := (enc z).py) (xs := l.map fun b => (enc b).py) (I.ok.hd hc) hl.isList (by simpa using ra) ⟨fun x hx y hy => ?_, fun x hx => ?_⟩ ?_ fun i v h' tk bs hv hr hk => ?_
  · obtain ⟨b, _, rfl⟩ := List.mem_map.mp (show x ∈ (z :: l).map (fun b => (enc b).py) from hx)
    obtain ⟨c, _, rfl⟩ := List.mem_map.mp (show y ∈ (z :: l).map (fun b => (enc b).py) from hy)
    exact G.al b c
  · obtain ⟨b, _, rfl⟩ := List.mem_map.mp (show x ∈ (z :: l).map (fun b => (enc b).py) from hx)
    exact G.nn b
  · have : PyData.depthAll ((enc z).py :: l.map fun b => (enc b).py) ≤ n := dl
    omega
  · obtain ⟨b, y, _, ry, rp⟩ := each_at (i := i) (each_of rl rv) (by simpa using hv)
    obtain ⟨cs, rd⟩ := Dp.reads I _ y v (Rep.dp (G.pure b) (rp.mono hs)) ry
    have rd' := PyProof.Rows.Reads.keeps hk rd
    rw [G.maxT] at hr
    have e1 := alike_unique _ _ _ _ _ (G.al b (DL.maxT lt z l)) rd' hr
    have e2 := G.eqv b (DL.maxT lt z l)
    rw [e1, G.eqv] at e2
    have e3 : b = DL.maxT lt z l := by simpa using e2.symm
    rw [e3] at rp
    exact ⟨y, H, I.kept hk, ry, q y rp⟩
theorem ev_minT [Inhabited α] (G : Dat enc lt n) (hn : n ≤ 60) (hu : X.A.units + 64 < cLine) {l : List α} (hg : Gl X "min") (hm : X.mg "min" = none) (hc : X.calm = true) (ha : EvA X [e] ρ [eLst enc l] ρ1) (h0 : l ≠ []) (he : starEach [e] X.env = (false, eval e X.env) :: starEach [] X.env := by first | exact star_cons rfl | rfl) (hpl : (backTo pos (starEach [] X.env)).any (·.1) = false := by first | exact plain_star rfl | rfl) :
    EvD X (.Call (.Name "min" p) [e] [] pos) ρ (.fz (enc (minL lt l))) ρ1 := by
  obtain ⟨z, l, rfl⟩ := List.exists_cons_of_ne_nil h0
  exact ev_B (cr_mn (z := z) (l := l) G hn hu hc) hg hm (by decide +kernel) ha (fun vs B H Q s r q => by
      obtain ⟨v, e, a, ws, e2, h, rl⟩ := r.one_of
      exact ⟨B, a, ws, by rw [e, e2], s, .inl (.inl (s _ _ h)), rl, fun y ry => q y B H (Grw.refl s) ry⟩) (by decide) (by decide) he hpl
theorem ev_maxT [Inhabited α] (G : Dat enc lt n) (hn : n ≤ 60) (hu : X.A.units + 64 < cLine) {l : List α} (hg : Gl X "max") (hm : X.mg "max" = none) (hc : X.calm = true) (ha : EvA X [e] ρ [eLst enc l] ρ1) (h0 : l ≠ []) (he : starEach [e] X.env = (false, eval e X.env) :: starEach [] X.env := by first | exact star_cons rfl | rfl) (hpl : (backTo pos (starEach [] X.env)).any (·.1) = false := by first | exact plain_star rfl | rfl) :
    EvD X (.Call (.Name "max" p) [e] [] pos) ρ (.fz (enc (maxL lt l))) ρ1 := by
  obtain ⟨z, l, rfl⟩ := List.exists_cons_of_ne_nil h0
  exact ev_B (cr_mx (z := z) (l := l) G hn hu hc) hg hm (by decide +kernel) ha (fun vs B H Q s r q => by
      obtain ⟨v, e, a, ws, e2, h, rl⟩ := r.one_of
      exact ⟨B, a, ws, by rw [e, e2], s, .inl (.inl (s _ _ h)), rl, fun y ry => q y B H (Grw.refl s) ry⟩) (by decide) (by decide) he hpl
end
end DL

/-! DL11: enumerate of a tuple. -/
namespace DL
open PySem PySem.Spec PyProof.Rows L2

theorem meets_enumB {v : Value} {o : Obj} {G : Heap → Prop} (Bg : Begins v o G) :
    Meets (Builtin.«enumerate.__new__» ⟨[.type "enumerate", v], []⟩) fun _ R s => G s.heap ∧ R (.ok (.ret (.ref (s.heap.push o).objs.size))) { s with
      heap := (s.heap.push o).push { cls := .type "enumerate", data := .fields #[.none, .bool false, .ref s.heap.objs.size, rawInt 0, .none, .none] } } := .of_wp fun prog w A R s hh => by
  obtain ⟨hp, g, d, tk, os⟩ := s
  obtain ⟨k1, k2⟩ := hh
  have hsub := sub_enumerate
  have it1 : ∀ {A2 : Around} {E : Value → Shared → Prop} {Q : Value → Shared → Prop}, Q (.ref hp.objs.size) ⟨hp.push o, g, d, tk, os⟩ → wpAny (model prog w) A2 (pyIter v) Q E ⟨hp, g, d, tk, os⟩ := fun z => Bg.iter prog w _ _ ⟨hp, g, d, tk, os⟩ _ k1 z
  wp_walk using it1
  refine wpAny_stack_any fun _ => wpAny_pure ?_
  split
  · rename_i c _ _ _ _ _
    cases (c == Value.type "enumerate") <;> (wp_walk using it1; exact ⟨_, rfl, k2⟩)
  · wp_walk using it1
    exact ⟨_, rfl, k2⟩
theorem call_enumB {prog : Program} {w : World} {A : Around} {E : Value → Shared → Prop} {s : Shared} {v : Value} {o : Obj} {G : Heap → Prop} {Q : Value → Shared → Prop} (Bg : Begins v o G) (k1 : G s.heap)
    (k : ∀ h2, IsEnum h2 (s.heap.objs.size + 1) s.heap.objs.size 0 .none → h2.get? s.heap.objs.size = some o → (∀ b ob, s.heap.get? b = some ob → h2.get? b = some ob) → Q (.ref (s.heap.objs.size + 1)) { s with heap := h2 }) : wpAny (model prog w) A (call (.type "enumerate") [v]) Q E s := by
  refine callType_new F.called_enumerate (by decide) (F.typeCall_enumerate_1 _) (F.newCall_enumerate_1 _) (fun q => F.args_object_init_2 q _) F.entry_enumerate_new (meets_enumB Bg) ⟨k1, ?_⟩
  have z : (s.heap.push o).objs.size = s.heap.objs.size + 1 := Heap.size_push ..
  show _ ∧ _
  rw [z]
  have e0 := Heap.get?_push_size (s.heap.push o) (o := { cls := .type "enumerate", data := .fields #[.none, .bool false, .ref s.heap.objs.size, rawInt 0, .none, .none] }) rfl
  rw [z] at e0
  exact ⟨⟨_, e0, rfl⟩, k _ e0 (Heap.get?_push_of_some _ (Heap.get?_push_size _ Bg.free)) fun b ob q => Heap.get?_push_of_some _ (Heap.get?_push_of_some _ q)⟩
/-- the tuple at a, each item in a new pair -/
def IteT (K : PySem.W.Frag) (a : Addr) : It :=
  ⟨fun i H => ∃ (xs : List V) (x : V), SqT K H a xs ∧ xs[i]? = some x, fun i H v H2 => ∃ T x, v = .ref T ∧ H T = none ∧ H2 = upd H T (.tup [.int (i : Nat), x]) ∧ ∀ ys, SqT K H a ys → ys[i]? = some x, fun i H => ∃ xs : List V, SqT K H a xs ∧ xs.length = i⟩
theorem tup_ne_iter {h : Heap} {a e it : Addr} {items : Array Value} {i : Nat} {c : Int} {old : Value} (ht : h.IsTuple a items) (hi : h.IsTupleIter it a i) (he : IsEnum h e it c old) : a ≠ it ∧ a ≠ e := by
  obtain ⟨o, ho, hc, _⟩ := ht
  refine ⟨fun z => ?_, fun z => ?_⟩
  · subst z
    obtain ⟨o2, ho2, hc2, _⟩ := hi
    rw [ho] at ho2
    cases ho2
    rw [hc] at hc2
    exact absurd hc2 (by decide)
  · subst z
    have q : h.get? a = _ := he
    rw [ho] at q
    cases q
    exact absurd (show Value.type "enumerate" = Value.type "tuple" from hc) (by decide)
theorem turn_enumT {P : Program} {w : World} {K : PySem.W.Frag} {tgs : List Expr} {kk : Nat} {tp : Pos} (a e it : Addr) :
    Turn P w K (.Tuple tgs kk tp) (IteT K a) [e, it] e fun i h => (∃ old, IsEnum h e it ((i : Nat) : Int) old) ∧ h.IsTupleIter it a i ∧ e ≠ it where
  mem := by simp
  obj := fun i h st b hb => by
    obtain ⟨⟨old, he⟩, ⟨o, ho, hc, hd⟩, _⟩ := st
    rcases List.mem_cons.mp hb with z | z
    · subst z; exact ⟨_, he, fun v q => nomatch q⟩
    · rw [List.mem_singleton.mp z]; exact ⟨o, ho, fun v q => by rw [hd] at q; cases q⟩
  keep := fun i h h2 st k => by
    obtain ⟨⟨old, he⟩, hi, h1⟩ := st
    exact ⟨⟨old, k e (by simp) _ he⟩, hi.at fun o q => k it (by simp) o q, h1⟩
  item := by
    intro X hP hw hK hc i pins s σ H E I hf st hg
    subst hP hw hK
    obtain ⟨⟨old, he⟩, hit, hne⟩ := st
    obtain ⟨xs, x, hq, hx⟩ := hg
    obtain ⟨its, rv, p, hz⟩ := I.tuple hq
    obtain ⟨u, hu, ru⟩ := rv.get hx
    have pt : s.heap.IsTuple a its.toArray := p
    obtain ⟨n1, n2⟩ := tup_ne_iter pt hit he
    have hel : e < s.heap.objs.size := Heap.lt_size he
    have hil : it < s.heap.objs.size := by obtain ⟨_, q, _⟩ := hit; exact Heap.lt_size q
    have hlt : i < its.length := by rw [← rv.length]; exact (List.getElem?_eq_some_iff.mp hx).1
    refine wpAny_pyNext_enum_itemD (Draws.tuple (A := X.A.in1) (I.ok.hd hc) it a n1 its.toArray) he ⟨hit, pt⟩ (by simpa using hlt) hne (by simp [hne, Ne.symm n2]) fun y h2 tk hy ho st2 hT hsz hk => ?_
    have ey : y = u := by
      have hy' : its[i]? = some y := by simpa using hy
      rw [hu] at hy'
      exact (Option.some.inj hy').symm
    subst ey
    refine ⟨_, rfl, wpAny_letOwnedTupleGo_enum (s := { s with heap := h2, toks := tk + 1 }) ho fun h3 he3 sb => ?_⟩
    have hT2 := (sb.2 _ (Nat.ne_of_gt hel)).trans hT
    have kp : ∀ b ob, b ∉ [e, it] → s.heap.get? b = some ob → h3.get? b = some ob := fun b ob hb q => (sb.2 b fun z => hb (by simp [z])).trans (hk b ob (fun z => hb (by simp [z])) (fun z => hb (by simp [z])) q)
    have new : ObjOk X.prog X.w (upd H s.heap.objs.size (.tup [.int (i : Nat), x])) h3 s.heap.objs.size (.tup [.int (i : Nat), x]) :=
      ⟨show 2 ≤ sizeLine by decide, [.int i tk, y], .cons ⟨_, rfl⟩ (.cons ru .nil), ⟨_, hT2, rfl, _, rfl⟩⟩
    have I1 : Inv X pins σ (upd H s.heap.objs.size (.tup [.int (i : Nat), x])) { s with heap := h3, toks := tk + 1 } := I.turnedNew (ch := [e, it]) kp hf (Nat.le_refl _) new
    refine ⟨.ref s.heap.objs.size, _, I1, rfl, ⟨_, x, rfl, I.hok.fresh (Nat.le_refl _), rfl, fun ys hy => by rw [I.tuple_inj hy hq]; exact hx⟩, ⟨⟨y, ?_⟩, st2.1.at fun o q => (sb.2 it (Ne.symm hne)).trans q, hne⟩, fun b hb => ?_⟩
    · rw [show ((i + 1 : Nat) : Int) = (i : Int) + 1 by omega]
      exact he3
    · have hb2 : b < s.heap.objs.size := by
        rcases List.mem_cons.mp hb with z | z
        · rw [z]; exact hel
        · rw [List.mem_singleton.mp z]; exact hil
      rw [upd_ne (Nat.ne_of_lt hb2)]
      exact (hf b hb).1
  done := by
    intro X hP hw hK hc i pins s σ H E I hf st hg
    subst hP hw hK
    obtain ⟨⟨old, he⟩, hit, hne⟩ := st
    obtain ⟨xs, hq, hx⟩ := hg
    obtain ⟨its, rv, p, hz⟩ := I.tuple hq
    obtain ⟨f0, f1, f2, f3, f4, f5⟩ := hf it (by simp)
    have pt : s.heap.IsTuple a its.toArray := p
    obtain ⟨n1, n2⟩ := tup_ne_iter pt hit he
    have ei : its.length = i := by rw [← rv.length]; exact hx
    subst ei
    exact wpAny_pyNext_enum_endD (Draws.tuple (A := X.A.in1) (I.ok.hd hc) it a n1 its.toArray) he ⟨by simpa using hit, pt⟩ fun h2 eb => ⟨rfl, I.turned (t' := s.toks) (fun b o hb q => eb b o hb q) f0 f1 f3 f4 f5⟩
  self := fun A i s Q E st h => let ⟨⟨_, he⟩, _⟩ := st; wpAny_pyIter_enum he h
def iEnumT (K : PySem.W.Frag) (ta : TA) : TI := fun σ H R => ta σ H fun vs H1 => ∃ a xs, vs = [.ref a] ∧ SqT K H1 a xs ∧ R (IteT K a) H1
theorem pi_enumT {X : Cx} {e : Expr} {ta : TA} {p pos tpos : Pos} {tgs : List Expr} {kk : Nat} (hg : Gl X "enumerate") (hm : X.mg "enumerate" = none) (ha : PA X [e] ta) (hs : starEach [e] X.env = [(false, eval e X.env)] := by first | exact star_one rfl | rfl) :
    PI X (.Tuple tgs kk tpos) (.Call (.Name "enumerate" p) [e] [] pos) (iEnumT X.K ta) := ⟨fun pins s σ H R I h => by
  refine Call_ (ld_blt I hg hm boot_enumerate (PyProof.Rows.callWith_type1 (thn (ha.run pos pins s σ H _ I h) fun us s1 z => ?_) hs rfl))
  obtain ⟨vs, H1, I1, r1, a, xs, ex, hq, q⟩ := z
  subst ex
  cases r1 with
  | cons r rr =>
    cases rr
    cases r
    obtain ⟨its, rv, pt, hz⟩ := I1.tuple hq
    refine call_enumB (begins_tuple a its.toArray) pt fun h2 he hi hk => wpAny_pyIter_enum he ?_
    have I2 : Inv X pins σ H1 { s1 with heap := h2 } := I1.kept (t' := s1.toks) hk
    refine ⟨_, [s1.heap.objs.size + 1, s1.heap.objs.size], _, _, H1, rfl, I2, turn_enumT a _ s1.heap.objs.size, ⟨⟨.none, he⟩, ⟨_, hi, rfl, rfl⟩, Nat.succ_ne_self _⟩, fun b hb => ?_, q⟩
    have hle : s1.heap.objs.size ≤ b := by
      rcases List.mem_cons.mp hb with z | z
      · rw [z]; exact Nat.le_add_right _ _
      · rw [List.mem_singleton.mp z]; exact Nat.le_refl _
    exact I1.fpOk hle (I1.hok.fresh hle)⟩

/-! ### enumerate, typed -/
def enm {α : Type} (l : List α) : List (Nat × α) := l.zipIdx.map fun p => (p.2, p.1)
theorem enm_get {α : Type} (l : List α) (i : Nat) : (enm l)[i]? = l[i]?.map fun x => (i, x) := by
  unfold enm
  rw [List.getElem?_map, List.getElem?_zipIdx]
  cases l[i]? <;> simp
theorem enm_len {α : Type} (l : List α) : (enm l).length = l.length := by
  unfold enm
  rw [List.length_map, List.length_zipIdx]
section
variable {X : Cx} {e : Expr} {ρ ρ1 : VE} {p pos tpos : Pos} {tgs : List Expr} {kk : Nat} {α : Type} {enc : α → D} {l : List α}
theorem itok_enum {K : PySem.W.Frag} {B : Hp} {a : Addr} {vs : List V} (h : SqL K B a vs) (r : RepL K B (l.map enc) vs) : ItOk K (Ite K a) B ((enm l).map fun x => .tup [eN x.1, enc x.2]) := by
  have hl := r.length
  rw [List.length_map] at hl
  have he : ((enm l).map fun x => D.tup [eN x.1, enc x.2]).length = l.length := by rw [List.length_map, enm_len]
  refine ⟨fun B' H' i s1 s2 hi => ⟨vs, vs[i]'(by omega), s2.seq (s1.seq h), List.getElem?_eq_getElem _⟩, fun B' H' i s1 s2 hi => ⟨vs, s2.seq (s1.seq h), by omega⟩, fun B' H' i d v H2 s1 s2 hd y => ?_⟩
  obtain ⟨T, x, ev, hT, eH, y⟩ := y
  rw [List.getElem?_map, enm_get] at hd
  cases e : l[i]? with
  | none => rw [e] at hd; cases hd
  | some z =>
    rw [e] at hd
    cases hd
    obtain ⟨u, h1, h2⟩ := r.get (i := i) (d := enc z) (by rw [List.getElem?_map, e]; rfl)
    have h3 := y vs (s2.seq (s1.seq h))
    rw [h1] at h3
    have h4 := Option.some.inj h3
    subst h4 ev eH
    exact ⟨_, Grw.push s2 hT, T, _, rfl, .inl (.inl upd_same), .int (i : Nat), [u], rfl, rfl, u, [], rfl, h2.mono (s1.trans (same_upd (s2.free hT))), rfl⟩
theorem itok_enumT {K : PySem.W.Frag} {B : Hp} {a : Addr} {vs : List V} (h : SqT K B a vs) (r : RepL K B (l.map enc) vs) : ItOk K (IteT K a) B ((enm l).map fun x => .tup [eN x.1, enc x.2]) := by
  have hl := r.length
  rw [List.length_map] at hl
  have he : ((enm l).map fun x => D.tup [eN x.1, enc x.2]).length = l.length := by rw [List.length_map, enm_len]
  refine ⟨fun B' H' i s1 s2 hi => ⟨vs, vs[i]'(by omega), same_t s2 (same_t s1 h), List.getElem?_eq_getElem _⟩, fun B' H' i s1 s2 hi => ⟨vs, same_t s2 (same_t s1 h), by omega⟩, fun B' H' i d v H2 s1 s2 hd y => ?_⟩
  obtain ⟨T, x, ev, hT, eH, y⟩ := y
  rw [List.getElem?_map, enm_get] at hd
  cases e : l[i]? with
  | none => rw [e] at hd; cases hd
  | some z =>
    rw [e] at hd
    cases hd
    obtain ⟨u, h1, h2⟩ := r.get (i := i) (d := enc z) (by rw [List.getElem?_map, e]; rfl)
    have h3 := y vs (same_t s2 (same_t s1 h))
    rw [h1] at h3
    have h4 := Option.some.inj h3
    subst h4 ev eH
    exact ⟨_, Grw.push s2 hT, T, _, rfl, .inl (.inl upd_same), .int (i : Nat), [u], rfl, rfl, u, [], rfl, h2.mono (s1.trans (same_upd (s2.free hT))), rfl⟩
theorem ei_enumL (hg : Gl X "enumerate") (hm : X.mg "enumerate" = none) (h : EvA X [e] ρ [eLst enc l] ρ1) (hs : starEach [e] X.env = [(false, eval e X.env)] := by first | exact star_one rfl | rfl) : EvI X (.Tuple tgs kk tpos) (.Call (.Name "enumerate" p) [e] [] pos) ρ ((enm l).map fun x => .tup [eN x.1, enc x.2]) ρ1 := .mk fun σ B H R I q =>
  wI.of (pi_enum hg hm pa_w hs) (h σ B H _ I fun vs B' H' I' g r => by
    obtain ⟨v, e, a, ws, e2, hs, rl⟩ := r.one_of
    exact ⟨a, ws, by rw [e, e2], .inl (.inl (I'.sub _ _ hs)), q _ B' H' I' g (itok_enum (.inl (.inl hs)) rl)⟩)
theorem ei_enumT (hg : Gl X "enumerate") (hm : X.mg "enumerate" = none) (h : EvA X [e] ρ [eTup enc l] ρ1) (hs : starEach [e] X.env = [(false, eval e X.env)] := by first | exact star_one rfl | rfl) : EvI X (.Tuple tgs kk tpos) (.Call (.Name "enumerate" p) [e] [] pos) ρ ((enm l).map fun x => .tup [eN x.1, enc x.2]) ρ1 := .mk fun σ B H R I q =>
  wI.of (pi_enumT hg hm pa_w hs) (h σ B H _ I fun vs B' H' I' g r => by
    obtain ⟨v, e, a, ws, e2, hs, rl⟩ := r.one_of
    exact ⟨a, ws, by rw [e, e2], same_t I'.sub hs, q _ B' H' I' g (itok_enumT hs rl)⟩)
end
end DL

/-! DL12: typed items and slices, chains, isinstance, ranges, parallel stores, fields. -/
namespace DL
open PySem PySem.Spec PyProof.Rows L2

/-! ### items by place -/
@[irreducible] def nth {α : Type} [Inhabited α] (l : List α) (i : Nat) : α := l.getD i default
def las {α : Type} [Inhabited α] (l : List α) : α := nth l (l.length - 1)
theorem nth_lt {α : Type} [Inhabited α] {l : List α} {i : Nat} (h : i < l.length) : nth l i = l[i] := by
  unfold nth
  rw [List.getD_eq_getElem?_getD, List.getElem?_eq_getElem h]
  rfl
theorem atI_nat {xs : List D} {i : Nat} (h : i < xs.length) : L2.atI xs (i : Int) = xs[i]? := by
  unfold L2.atI ixN
  have h1 : ¬ ((i : Int) < 0) := by omega
  have h2 : (i : Int) < xs.length := by omega
  simp [h1, h2, h]
theorem atI_neg1 {xs : List D} (h : 0 < xs.length) : L2.atI xs (-1) = xs[xs.length - 1]? := by
  unfold L2.atI ixN
  rw [if_neg (by decide), if_pos (by omega)]
  show xs[((-1 : Int) + xs.length).toNat]? = _
  rw [show ((-1 : Int) + xs.length).toNat = xs.length - 1 by omega]
section
variable {X : Cx} {e a b c elt tg iter : Expr} {es : List Expr} {ρ ρ1 ρ2 ρ3 : VE} {d x y z : D} {r : Var} {pos p p2 : Pos} {i j m n : Nat} {α β : Type} {enc : α → D} {l : List α}
theorem at_typed [Inhabited α] (h : i < l.length) : L2.atI (l.map enc) (i : Int) = some (enc (nth l i)) := by
  rw [atI_nat (by rw [List.length_map]; exact h), List.getElem?_map, List.getElem?_eq_getElem h, nth_lt h]
  rfl
theorem at_last [Inhabited α] (h : 0 < l.length) : L2.atI (l.map enc) (-1) = some (enc (las l)) := by
  rw [atI_neg1 (by rw [List.length_map]; exact h), List.length_map, List.getElem?_map, List.getElem?_eq_getElem (by omega)]
  unfold las
  rw [nth_lt (by omega)]
  rfl
theorem ev_ixLN [Inhabited α] (ha : EvD X a ρ (.fz (eLst enc l)) ρ1) (hb : EvD X b ρ1 (.fz (eN i)) ρ2) (h : i < l.length) (hs : PlainIx b := by exact fun _ _ => rfl) : EvD X (.Subscript a b pos) ρ (.fz (enc (nth l i))) ρ2 := ev_ixL ha hb (at_typed h) hs
theorem ev_ixTN [Inhabited α] (ha : EvD X a ρ (.fz (eTup enc l)) ρ1) (hb : EvD X b ρ1 (.fz (eN i)) ρ2) (h : i < l.length) (hs : PlainIx b := by exact fun _ _ => rfl) : EvD X (.Subscript a b pos) ρ (.fz (enc (nth l i))) ρ2 := ev_ixT ha hb (at_typed h) hs
theorem ev_m1 {k : Nat} {pos q : Pos} : EvD X (.UnaryOp .USub (.Constant (.int 1) k q) pos) ρ (.fz (.int (-1))) ρ := ev_as (ev_neg (i := 1) ev_int) rfl
theorem ev_ixLl [Inhabited α] (ha : EvD X a ρ (.fz (eLst enc l)) ρ1) (hb : EvD X b ρ1 (.fz (.int (-1))) ρ2) (h : 0 < l.length) (hs : PlainIx b := by exact fun _ _ => rfl) : EvD X (.Subscript a b pos) ρ (.fz (enc (las l))) ρ2 := ev_ixL ha hb (at_last h) hs
theorem ev_ixTl [Inhabited α] (ha : EvD X a ρ (.fz (eTup enc l)) ρ1) (hb : EvD X b ρ1 (.fz (.int (-1))) ρ2) (h : 0 < l.length) (hs : PlainIx b := by exact fun _ _ => rfl) : EvD X (.Subscript a b pos) ρ (.fz (enc (las l))) ρ2 := ev_ixT ha hb (at_last h) hs

/-! ### slices -/
def cutN {α : Type} (l : List α) (lo hi : Option Nat) : List α := (l.drop (lo.getD 0)).take (hi.getD l.length - lo.getD 0)
theorem sIx_nat (n k dflt : Nat) : HT.sIx n dflt (some (k : Int)) = min k n := by
  unfold HT.sIx
  have h : ¬ ((k : Int) < 0) := by omega
  simp [h]
  try omega
theorem sIx_non (n dflt : Nat) : HT.sIx n dflt none = dflt := rfl
theorem cut_typed (lo hi : Option Nat) : cutD (l.map enc) (lo.map Int.ofNat) (hi.map Int.ofNat) = (cutN l lo hi).map enc := by
  unfold cutD cutN
  rw [List.length_map, List.map_take, List.map_drop]
  cases lo with
  | none =>
    cases hi with
    | none => rfl
    | some h =>
      show List.take (HT.sIx _ _ (some (h : Int)) - HT.sIx _ _ none) _ = _
      rw [sIx_nat, sIx_non]
      show List.take (min h l.length - 0) (List.drop 0 _) = List.take (h - 0) (List.drop 0 _)
      rw [Nat.sub_zero, Nat.sub_zero, List.drop_zero]
      by_cases q : h ≤ l.length
      · rw [Nat.min_eq_left q]
      · rw [Nat.min_eq_right (by omega), List.take_of_length_le (by simp), List.take_of_length_le (by simp; omega)]
  | some k =>
    show List.take (_ - HT.sIx _ _ (some (k : Int))) (List.drop (HT.sIx _ _ (some (k : Int))) _) = _
    have e1 : List.drop (min k l.length) (l.map enc) = List.drop k (l.map enc) := by
      by_cases q : k ≤ l.length
      · rw [Nat.min_eq_left q]
      · rw [Nat.min_eq_right (by omega), List.drop_eq_nil_of_le (by simp), List.drop_eq_nil_of_le (by simp; omega)]
    cases hi with
    | none =>
      show List.take (l.length - _) _ = _
      rw [sIx_nat, e1]
      show _ = List.take (l.length - k) (List.drop k _)
      rw [show l.length - min k l.length = l.length - k by omega]
    | some h =>
      show List.take (HT.sIx _ _ (some (h : Int)) - _) _ = _
      rw [sIx_nat, sIx_nat, e1]
      show _ = List.take (h - k) (List.drop k _)
      by_cases q : h ≤ l.length
      · rw [Nat.min_eq_left q]
        by_cases q2 : k ≤ l.length
        · rw [Nat.min_eq_left q2]
        · rw [List.drop_eq_nil_of_le (by simp; omega)]
          simp
      · rw [Nat.min_eq_right (by omega)]
        rw [List.take_of_length_le (by simp; omega), List.take_of_length_le (by simp; omega)]
theorem eo_someN (h : EvD X e ρ (.fz (eN i)) ρ1) : EvO X (some e) ρ ((some i).map Int.ofNat) ρ1 := eo_some h
theorem eo_noneN : EvO X none ρ ((none : Option Nat).map Int.ofNat) ρ := eo_none
variable {lo hi : Option Expr} {o1 o2 : Option Nat}
theorem ev_cutL (ha : EvD X e ρ (.fz (eLst enc l)) ρ1) (hl : EvO X lo ρ1 (o1.map Int.ofNat) ρ2) (hu : EvO X hi ρ2 (o2.map Int.ofNat) ρ3) : EvD X (.Subscript e (.Slice lo hi none p2) pos) ρ (.ow (eLst enc (cutN l o1 o2))) ρ3 := ev_as (ev_sliceL ha hl hu) (by rw [cut_typed])
theorem ev_cutT (ha : EvD X e ρ (.fz (eTup enc l)) ρ1) (hl : EvO X lo ρ1 (o1.map Int.ofNat) ρ2) (hu : EvO X hi ρ2 (o2.map Int.ofNat) ρ3) : EvD X (.Subscript e (.Slice lo hi none p2) pos) ρ (.fz (eTup enc (cutN l o1 o2))) ρ3 := ev_as (ev_sliceT ha hl hu) (by rw [cut_typed])

/-! ### a op b op' c -/
theorem ev_chn {op op' : CmpOp} {r r' : R2} {c1 c2 : Bool} (ho : OpR X (compareOp op) r) (ho' : OpR X (compareOp op') r') (ha : EvD X a ρ (.fz x) ρ) (hb : EvD X b ρ (.fz y) ρ) (hc : c1 = true → EvD X c ρ (.fz z) ρ) (h1 : OpD X r x y (.fz (.bl c1))) (h2 : c1 = true → OpD X r' y z (.fz (.bl c2)))
    (hm : lastMarks [op, op'] [b, c] = false := by with_unfolding_all rfl) : EvD X (.Compare a [op, op'] [b, c] pos) ρ (.fz (.bl (c1 && c2))) ρ := .mk fun σ B H Q I q => by
  refine wE.of (pe_chain ho ho' pe_w pe_w pe_w hm) (ha σ B H _ I fun v B1 H1 I1 g1 r1 => hb σ B1 H1 _ I1 fun w B2 H2 I2 g2 r2 => ?_)
  refine h1 v w B2 H2 _ I2.sub (Rep.mono g2.bsub r1) r2 fun u B3 H3 g h => ⟨c1, h, ?_⟩
  obtain ⟨I3, g3, _⟩ := fin_op (res := .fz (.bl c1)) I2 (g1.trans g2) g h
  cases c1 with
  | false => rw [if_neg Bool.false_ne_true]; exact q _ B3 H3 I3 g3 rfl
  | true =>
    rw [if_pos rfl]
    refine hc rfl σ B3 H3 _ I3 fun w2 B4 H4 I4 g4 r4 => ?_
    refine h2 rfl w w2 B4 H4 _ I4.sub (Rep.mono (g.bsub.trans g4.bsub) r2) r4 fun u B5 H5 g5 h5 => ?_
    obtain ⟨I5, g6, r6⟩ := fin_op (res := .fz (.bl c2)) I4 (g3.trans g4) g5 h5
    exact q _ B5 H5 I5 g6 r6
theorem et_chn {op op' : CmpOp} {r r' : R2} {c1 c2 : Bool} (ho : OpR X (compareOp op) r) (ho' : OpR X (compareOp op') r') (ha : EvD X a ρ (.fz x) ρ) (hb : EvD X b ρ (.fz y) ρ) (hc : c1 = true → EvD X c ρ (.fz z) ρ) (h1 : OpD X r x y (.fz (.bl c1))) (h2 : c1 = true → OpD X r' y z (.fz (.bl c2)))
    (hm : lastMarks [op, op'] [b, c] = false := by with_unfolding_all rfl) : EvT X (.Compare a [op, op'] [b, c] pos) ρ (c1 && c2) ρ := .mk fun σ B H Q I q => by
  refine wT.of (pt_chain ho ho' pe_w pe_w pe_w hm) (ha σ B H _ I fun v B1 H1 I1 g1 r1 => hb σ B1 H1 _ I1 fun w B2 H2 I2 g2 r2 => ?_)
  refine h1 v w B2 H2 _ I2.sub (Rep.mono g2.bsub r1) r2 fun u B3 H3 g h => ⟨c1, h, ?_⟩
  obtain ⟨I3, g3, _⟩ := fin_op (res := .fz (.bl c1)) I2 (g1.trans g2) g h
  cases c1 with
  | false => rw [if_neg Bool.false_ne_true]; exact ⟨false, rfl, q B3 H3 I3 g3⟩
  | true =>
    rw [if_pos rfl]
    refine hc rfl σ B3 H3 _ I3 fun w2 B4 H4 I4 g4 r4 => ?_
    refine h2 rfl w w2 B4 H4 _ I4.sub (Rep.mono (g.bsub.trans g4.bsub) r2) r4 fun u B5 H5 g5 h5 => ?_
    obtain ⟨I5, g6, r6⟩ := fin_op (res := .fz (.bl c2)) I4 (g3.trans g4) g5 h5
    exact ⟨c2, r6, q B5 H5 I5 g6⟩
theorem odEqN : OpD X rEq (eN i) (eN j) (.fz (.bl (decide (i = j)))) := fun v w B H Q s hv hw q => by
    rw [show v = V.int i from hv, show w = V.int j from hw]
    exact ⟨rfl, q _ B H (Grw.refl s) (by rw [dec_I, show decide ((i : Int) = (j : Int)) = decide (i = j) by simp [Int.ofNat_inj]]; rfl)⟩
theorem odLtN : OpD X (rI0 fun i j => .bl (decide (i < j))) (eN i) (eN j) (.fz (.bl (decide (i < j)))) := fun v w B H Q s hv hw q => ⟨i, j, hv, hw, q _ B H (Grw.refl s) (by show V.bl _ = V.bl _; simp)⟩
theorem odLeN : OpD X (rI0 fun i j => .bl (decide (i ≤ j))) (eN i) (eN j) (.fz (.bl (decide (i ≤ j)))) := fun v w B H Q s hv hw q => ⟨i, j, hv, hw, q _ B H (Grw.refl s) (by show V.bl _ = V.bl _; simp)⟩

/-! ### isinstance of plain data -/
def tyD : D → Option String
  | .non => some "NoneType"
  | .bl _ => some "bool"
  | .int _ => some "int"
  | .str _ => some "str"
  | .tup _ => some "tuple"
  | .lst _ => some "list"
  | .seq _ => some "list"
  | .dk _ _ => some "dict"
  | _ => none
theorem tyD_ok {K : PySem.W.Frag} {B H : Hp} (s : Same B H) : ∀ {x : D} {v : V} {t : String}, tyD x = some t → Rep K B x v → TyX K H v (.type t)
  | .non, _, _, e, h => by cases e; rw [show _ = V.non from h]; exact .base .non
  | .bl b, _, _, e, h => by cases e; rw [show _ = V.bl b from h]; exact .base (.bl b)
  | .int i, _, _, e, h => by cases e; rw [show _ = V.int i from h]; exact .base (.int i)
  | .str y, _, _, e, h => by cases e; rw [show _ = V.str y from h]; exact .base (.str y)
  | .tup l, _, _, e, ⟨a, vs, h1, h2, _⟩ => by
    cases e
    subst h1
    rcases h2 with (h | ⟨o, h⟩) | ⟨o, its, n, k, c, _⟩
    · exact .base (.tup (s _ _ h))
    · exact .fTuple (s _ _ h)
    · exact .kTuple k c
  | .lst l, _, _, e, ⟨a, vs, h1, h2, _⟩ => by cases e; subst h1; exact .base (.lst (s _ _ h2))
  | .seq l, _, _, e, ⟨a, vs, h1, h2, _⟩ => by
    cases e
    subst h1
    rcases h2 with (h | ⟨o, h⟩) | ⟨o, its, n, k, c, _⟩
    · exact .base (.lst (s _ _ h))
    · exact .base (.frz (s _ _ h))
    · exact .kList k c
  | .dk ks l, _, _, e, ⟨a, ws, h1, h2, _⟩ => by
    cases e
    subst h1
    rcases h2 with h | ⟨o, h⟩
    · exact .base (.dK (s _ _ h))
    · exact .fDict (s _ _ h)
  | .dt _ _, _, _, e, _ => by cases e
  | .ins _ _ _, _, _, e, _ => by cases e
  | .raw _, _, _, e, _ => by cases e
  | .dz _ _, _, _, e, _ => by cases e
/-- isinstance(x, T), T built in -/
theorem ev_isiB {t n : String} {k : Bool} {T : Str} {p2 : Pos} (hg : Gl X "isinstance") (hm : X.mg "isinstance" = none) (hgT : Gl X T) (hmT : X.mg T = none) (hvT : bootBuiltins T = some (.type n)) (ha : EvD X a ρ (.fz x) ρ) (ht : tyD x = some t) (hk : kitB t n = some k)
    (hn : T ≠ "__name__" := by decide) (hdb : (T == ("__debug__" : Str)) = false := by decide) (he : starEach [a, .Name T p2] X.env = (false, eval a X.env) :: starEach [.Name T p2] X.env := by first | exact star_cons rfl | rfl) (he2 : starEach [.Name T p2] X.env = (false, eval (.Name T p2) X.env) :: starEach [] X.env := by first | exact star_cons rfl | rfl) (hpl : (backTo pos (starEach [.Name T p2] X.env)).any (·.1) = false := by first | exact plain_star rfl | rfl) :
    EvD X (.Call (.Name "isinstance" p) [a, .Name T p2] [] pos) ρ (.fz (.bl k)) ρ :=
  ev_B call_isi hg hm (by decide +kernel) (ea_cons ha (ea_1 (x := .raw (.ty n)) (ev_c (pe_bltn (v := .ty n) hgT hmT hvT rfl hn hdb) fun _ => rfl) he2) he) (fun vs B H Q s r q => by
    obtain ⟨v, w, e1, r1, v2, w2, e2, r2, e3⟩ := r
    refine ⟨v, v2, _, _, k, by rw [e1, e2, show w2 = [] from e3], ?_, tyD_ok s ht r1, kit_ty hk, q _ B H (Grw.refl s) rfl⟩
    rw [show v2 = V.ty n from r2]
    exact .ty n) (by decide) (by decide) he hpl

/-! ### ranges -/
theorem ei_rangeI {x1 : Expr} {u : Int} (hg : Gl X "range") (hm : X.mg "range" = none) (h : EvA X [x1] ρ [.int u] ρ1) (hn : -(2 ^ 62) ≤ u ∧ u < 2 ^ 62) (hs : starEach [x1] X.env = [(false, eval x1 X.env)] := by first | exact star_one rfl | rfl) : EvI X tg (.Call (.Name "range" p) [x1] [] pos) ρ ((List.range u.toNat).map eN) ρ1 := by
  have q := ei_rng1 (tg := tg) (p := p) (pos := pos) hg hm h hn hs
  rw [rngD0] at q
  exact q
/-- lo, .., hi - 1 -/
def rgN (lo hi : Nat) : List Nat := (List.range (hi - lo)).map fun i => lo + i
theorem rngD_nat (lo n : Nat) : rngD (lo : Int) n = ((List.range n).map fun i => lo + i).map eN := by
  unfold rngD
  rw [List.map_map]
  refine List.map_congr_left fun i _ => ?_
  show D.int _ = D.int _
  rw [Int.natCast_add]
theorem ei_range2N {x1 x2 : Expr} (hg : Gl X "range") (hm : X.mg "range" = none) (h : EvA X [x1, x2] ρ [eN i, eN j] ρ1) (hj : i < 2 ^ 62 ∧ j < 2 ^ 62) (hs : starEach [x1, x2] X.env = [(false, eval x1 X.env), (false, eval x2 X.env)] := by first | exact star_two rfl rfl | rfl) (hs2 : starEach [x2] X.env = [(false, eval x2 X.env)] := by first | exact star_one rfl | rfl) :
    EvI X tg (.Call (.Name "range" p) [x1, x2] [] pos) ρ ((rgN i j).map eN) ρ1 := by
  have q := ei_rng2 (tg := tg) (p := p) (pos := pos) hg hm h ⟨by omega, by omega, by omega, by omega⟩ hs hs2
  rw [show ((j : Int) - (i : Int)).toNat = j - i by omega, rngD_nat] at q
  exact q
/-- n - 1, .., 0 -/
def dnN (n : Nat) : List Nat := (List.range n).map fun i => n - 1 - i
theorem itok_rngC {K : PySem.W.Frag} {B : Hp} {n : Nat} : ItOk K (Itc ((n : Int) - 1) (-1) n) B ((dnN n).map eN) := by
  have hl : ((dnN n).map eN).length = n := by simp [dnN]
  refine ⟨fun B' H' i s1 s2 hi => by rw [hl] at hi; exact hi, fun B' H' i s1 s2 hi => by rw [hl] at hi; exact Nat.le_of_eq hi, fun B' H' i d v H2 s1 s2 hd y => ?_⟩
  obtain ⟨e, y⟩ := y
  subst e
  have hi : i < n := by rw [← hl]; exact (List.getElem?_eq_some_iff.mp hd).1
  refine ⟨B', Grw.refl s2, ?_⟩
  have e2 : ((dnN n).map eN)[i]? = some (eN (n - 1 - i)) := by simp [dnN, hi]
  rw [e2] at hd
  cases hd
  show v = V.int _
  rw [y]
  congr 1
  omega
theorem ei_down {x1 x2 x3 : Expr} {u : Int} (hg : Gl X "range") (hm : X.mg "range" = none) (h : EvA X [x1, x2, x3] ρ [.int u, .int (-1), .int (-1)] ρ1) (hu : u = (n : Int) - 1) (hn : n < 2 ^ 61) (hs : starEach [x1, x2, x3] X.env = (false, eval x1 X.env) :: starEach [x2, x3] X.env := by first | exact star_cons rfl | rfl) (hpl : (backTo pos (starEach [x2, x3] X.env)).any (·.1) = false := by first | exact plain_star rfl | rfl) :
    EvI X tg (.Call (.Name "range" p) [x1, x2, x3] [] pos) ρ ((dnN n).map eN) ρ1 := .mk fun σ B H R I q => by
  refine wI.of (pi_range3 hg hm pa_w hs hpl) (h σ B H _ I fun vs B' H' I' g r => ?_)
  obtain ⟨v, w, e, r1, v2, w2, e2, r2, v3, w3, e3, r3, e4⟩ := r
  refine ⟨u, -1, -1, n, by rw [e, e2, e3, show v = V.int u from r1, show v2 = V.int (-1) from r2, show v3 = V.int (-1) from r3, show w3 = [] from e4], ?_, ?_⟩
  · have := RgC.neg (i := u) (j := -1) (by omega) (by omega) (by omega) (by omega)
    rw [show (u - -1).toNat = n by omega] at this
    exact this
  · rw [hu]
    exact q _ B' H' I' g itok_rngC

/-! ### a, b = x, y -/
theorem set_fz {K : PySem.W.Frag} {σ0 σ : L2.St} {ρ0 : VE} {B0 H0 B H : Hp} {i : Nat} {v : V} {d : D} (I : EnvOk K B H σ ρ) (g : GoS σ0 ρ0 B0 H0 σ ρ B H) (q : Rep K B d v) (hi : i < ρ.length) (hio : isIo ρ[i]? = false) :
    EnvOk K B H (σ.set i (some v)) (ρ.set i (.fz d)) ∧ GoS σ0 ρ0 B0 H0 (σ.set i (some v)) (ρ.set i (.fz d)) B H := by
  obtain ⟨I2, g2⟩ := set_step (r := .fz d) (v := v) I (Go.refl (Rt σ ρ) B H) q hi (IoK.refl ρ) hio
  exact ⟨I2, g.trans g2⟩
theorem x1_par (i j : Nat) {x y : Str} {px py pt pos : Pos} {kt k2 : Nat} {pt2 : Pos} {κ : KS} {d1 d2 : D} (ha : EvA X [a, b] ρ [d1, d2] ρ1) (hc : X.calm = true) (hN : X.N.Nodup) (hi : X.N[i]? = some x) (hj : X.N[j]? = some y) (hij : i ≠ j) (hx : X.env.scope.names.lookup x = some .local) (hy : X.env.scope.names.lookup y = some .local)
    (k : κ.nx ((ρ1.set i (.fz d1)).set j (.fz d2))) (hw : swappedStores [.Tuple [.Name x px, .Name y py] kt pt] (.Tuple [a, b] k2 pt2) X.env = pure (some [x, y])) (hs : swapsWithSole [.Tuple [.Name x px, .Name y py] kt pt] (.Tuple [a, b] k2 pt2) pos.line X.env = pure false := by rfl)
    (hl : decide (i < ρ1.length ∧ j < ρ1.length) = true := by rfl) (hio : isIo ρ1[i]? = false := by rfl) (hio2 : isIo (ρ1.set i (.fz d1))[j]? = false := by rfl) (io : IoK ρ ρ1 := by first | exact IoK.refl _ | exact ioK_ok rfl) : X1 X (.Assign [.Tuple [.Name x px, .Name y py] kt pt] (.Tuple [a, b] k2 pt2) pos) ρ κ := .mk fun σ B H D I S => by
  refine wS.of (ps_par hc hN hi hj hij hx hy pa_w hw hs) (ha σ B H _ I fun vs B' H' I' g q => ?_)
  obtain ⟨v, w, e, r1, v2, w2, e2, r2, e3⟩ := q
  have hl' := of_decide_eq_true hl
  obtain ⟨I2, g2⟩ := set_fz I' (go_s g io) r1 hl'.1 hio
  obtain ⟨I3, g3⟩ := set_fz I2 g2 r2 (by rw [List.length_set]; exact hl'.2) hio2
  exact ⟨v, v2, by rw [e, e2, show w2 = [] from e3], S.nx _ _ B' H' k I3 g3⟩
theorem x1_par3 (i j l : Nat) {x y z : Str} {px py pz pt pos : Pos} {kt k2 : Nat} {pt2 : Pos} {κ : KS} {d1 d2 d3 : D} (ha : EvA X [a, b, c] ρ [d1, d2, d3] ρ1) (hc : X.calm = true) (hN : X.N.Nodup) (hi : X.N[i]? = some x) (hj : X.N[j]? = some y) (hk : X.N[l]? = some z) (hij : i ≠ j ∧ i ≠ l ∧ j ≠ l)
    (hx : X.env.scope.names.lookup x = some .local) (hy : X.env.scope.names.lookup y = some .local) (hz : X.env.scope.names.lookup z = some .local) (k : κ.nx (((ρ1.set i (.fz d1)).set j (.fz d2)).set l (.fz d3)))
    (hw : swappedStores [.Tuple [.Name x px, .Name y py, .Name z pz] kt pt] (.Tuple [a, b, c] k2 pt2) X.env = pure (some [x, y, z])) (hs : swapsWithSole [.Tuple [.Name x px, .Name y py, .Name z pz] kt pt] (.Tuple [a, b, c] k2 pt2) pos.line X.env = pure false := by rfl)
    (hl : decide (i < ρ1.length ∧ j < ρ1.length ∧ l < ρ1.length) = true := by rfl) (hio : isIo ρ1[i]? = false := by rfl) (hio2 : isIo (ρ1.set i (.fz d1))[j]? = false := by rfl) (hio3 : isIo ((ρ1.set i (.fz d1)).set j (.fz d2))[l]? = false := by rfl) (io : IoK ρ ρ1 := by first | exact IoK.refl _ | exact ioK_ok rfl) :
    X1 X (.Assign [.Tuple [.Name x px, .Name y py, .Name z pz] kt pt] (.Tuple [a, b, c] k2 pt2) pos) ρ κ := .mk fun σ B H D I S => by
  refine wS.of (ps_par3 hc hN hi hj hk hij.1 hij.2.1 hij.2.2 hx hy hz pa_w hw hs) (ha σ B H _ I fun vs B' H' I' g q => ?_)
  obtain ⟨v, w, e, r1, v2, w2, e2, r2, v3, w3, e3, r3, e4⟩ := q
  have hl' := of_decide_eq_true hl
  obtain ⟨I2, g2⟩ := set_fz I' (go_s g io) r1 hl'.1 hio
  obtain ⟨I3, g3⟩ := set_fz I2 g2 r2 (by rw [List.length_set]; exact hl'.2.1) hio2
  obtain ⟨I4, g4⟩ := set_fz I3 g3 r3 (by rw [List.length_set, List.length_set]; exact hl'.2.2) hio3
  exact ⟨v, v2, v3, by rw [e, e2, e3, show w3 = [] from e4], S.nx _ _ B' H' k I4 g4⟩
/-- (a, b, ..) = a list -/
theorem xg_lst {tgs : List Expr} {js : List Nat} {P : VE → Prop} {ds : List D} {k : Nat} (hc : X.calm = true) (h : XGs X tgs js ds ρ P) (hn : (assignEach tgs X.env).length = ds.length := by rfl) (hst : (assignEach tgs X.env).findIdx? (·.1) = none := by rfl) : XG X (.Tuple tgs k pos) js (.lst ds) ρ P := .mk fun σ B H v Q I r q => by
  obtain ⟨a, vs, e, hs, r⟩ := r
  have hl := r.length
  exact wG.of (pg_unl hc pgs_w rfl hst) ⟨a, vs, e, .inl (.inl (I.sub _ _ hs)), by rw [hl, hn], h σ B H vs Q I r q⟩

/-! ### fields -/
theorem zip_get {K : PySem.W.Frag} {B : Hp} : ∀ {fs : List Str} {ls : List D} {ws : List V} {f : Str} {d : D}, fs.length = ws.length → RepL K B ls ws → (fs.zip ls).lookup f = some d → ∃ v, (fs.zip ws).lookup f = some v ∧ Rep K B d v
  | [], ls, _, _, _, _, _, h => by simp at h
  | g :: fs, [], _, _, _, _, _, h => by simp at h
  | g :: fs, y :: ls, _, f, d, hl, ⟨v, w, e, r1, r2⟩, h => by
    subst e
    rw [List.zip_cons_cons, List.lookup_cons] at h ⊢
    by_cases q : (f == g) = true
    · rw [q] at h ⊢
      cases h
      exact ⟨v, rfl, r1⟩
    · rw [Bool.not_eq_true] at q
      rw [q] at h ⊢
      exact zip_get (by simpa using hl) r2 h
theorem ev_fld {C : Addr} {fs : List Str} {ls : List D} {f : Str} (he : EvD X e ρ (.fz (.ins C fs ls)) ρ1) (cl : Cls X.K C) (na : NoAttr X.K C f) (hf : (fs.zip ls).lookup f = some d) (hb : attributeBase e f X.env (eval e X.env) = eval e X.env := by rfl) : EvD X (.Attribute e f pos) ρ (.fz d) ρ1 := .mk fun σ B H Q I q =>
  wE.of (pe_fld pe_w hb) (he σ B H _ I fun v B1 H1 I1 g1 r1 => by
    obtain ⟨a, dx, ws, e1, h1, hl, rl⟩ := r1
    obtain ⟨u, h2, r2⟩ := zip_get hl rl hf
    exact ⟨a, C, dx, _, u, e1, I1.sub _ _ h1, cl, na, h2, q u B1 H1 I1 g1 r2⟩)
end
end DL

/-! DL13: calls that change their first argument, methods, new instances, fields stored. -/
namespace DL
open PySem PySem.Spec PyProof.Rows L2

section
variable {X : Cx} {e a b c : Expr} {es : List Expr} {ρ ρ1 ρ2 ρ3 : VE} {d x y z d0 d1 : D} {r : Var} {pos p : Pos} {i k : Nat} {ds dds : List D} {S : FS} {ps : List Str}

/-! ### the first argument is its caller's own -/
theorem EnvOk.io1 {K : PySem.W.Frag} {B H : Hp} {a : Addr} {vs : List V} (s : Same B H) (o : Own K B H d0 a) (r : RepL K B ds vs) : EnvOk K B H ((V.ref a :: vs).map some) (.io d0 :: ds.map .fz) := by
  have noOw : ∀ i : Nat, isOw (ds.map Var.fz)[i]? = false := fun i => by
    rw [List.getElem?_map]
    cases ds[i]? <;> rfl
  refine ⟨s, by simp [r.length], fun i q e => ?_, fun i j b hij h1 h2 => ?_⟩
  · cases i with
    | zero =>
      cases e
      exact ⟨a, rfl, o⟩
    | succ i =>
      have e' : (ds.map Var.fz)[i]? = some q := e
      rw [List.getElem?_map] at e'
      obtain ⟨d, h1, h2⟩ := Option.map_eq_some_iff.mp e'
      subst h2
      obtain ⟨v, h3, h4⟩ := r.get h1
      refine ⟨v, ?_, h4⟩
      show (vs.map some)[i]? = _
      rw [List.getElem?_map, h3]
      rfl
  · cases i with
    | zero =>
      cases j with
      | zero => exact (hij rfl).elim
      | succ j => exact absurd (show isOw (ds.map Var.fz)[j]? = true from h2) (by rw [noOw]; exact Bool.false_ne_true)
    | succ i => exact absurd (show isOw (ds.map Var.fz)[i]? = true from h1) (by rw [noOw]; exact Bool.false_ne_true)
theorem rt_io1 {a b : Addr} {vs : List V} (h : Rt ((V.ref a :: vs).map some) (.io d0 :: ds.map .fz) b) : b = a := by
  obtain ⟨i, h1, h2⟩ := h
  cases i with
  | zero =>
    have q : some (some (V.ref a)) = some (some (V.ref b)) := h2
    cases q
    rfl
  | succ i =>
    exfalso
    have h1' : isOw (ds.map Var.fz)[i]? = true := h1
    rw [List.getElem?_map] at h1'
    cases q : ds[i]? with
    | none => rw [q] at h1'; cases h1'
    | some d => rw [q] at h1'; cases h1'
theorem io_call {K : PySem.W.Frag} {σ : L2.St} {W0 : Addr → Prop} {B0 H0 B H : Hp} {w : Bool} {a : Addr} {vs : List V} {Q : VK} (I : EnvOk K B H σ ρ) (g0 : Go W0 B0 H0 (Rt σ ρ) B H) (hi : ρ[i]? = some (Var.own w d0)) (ha : σ[i]? = some (some (.ref a))) (rv : RepL K B ds vs) (hs : S (.io d0 :: ds.map .fz) r (.io d1 :: ds.map .fz))
    (q : ∀ v B2 H2, EnvOk K B2 H2 σ (ρ.set i (Var.own w d1)) → Go W0 B0 H0 (Rt σ (ρ.set i (Var.own w d1))) B2 H2 → ResOk K H0 (Rt σ (ρ.set i (Var.own w d1))) B2 H2 r v → Q v H2) : spF K S (V.ref a :: vs ++ []) H Q E0 := by
  rw [List.append_nil]
  obtain ⟨a2, e2, o⟩ := var_own.mp (I.var i _ hi)
  rw [ha] at e2
  cases e2
  refine ⟨B, _, r, _, EnvOk.io1 I.sub o rv, hs, fun v B2 H2 I2 g rc => ?_⟩
  have hil := lt_of_get hi
  have rtA : Rt σ ρ a := ⟨i, by rw [hi]; exact own_ow, ha⟩
  obtain ⟨a3, e3, o3⟩ := I2.var 0 (.io d1) rfl
  have e4 : a3 = a := by cases e3; rfl
  subst e4
  have ow_iff : ∀ {j : Nat}, isOw (ρ.set i (Var.own w d1))[j]? = true → isOw ρ[j]? = true := fun {j} h => by
    rcases isOw_set h with ⟨z, _⟩ | z
    · subst z; rw [hi]; exact own_ow
    · exact z.2
  have keep : ∀ b o, b ≠ a3 → H b = some o → H2 b = some o := fun b o n h => g.keep b o h fun z => n (rt_io1 z)
  have nw : ∀ b o, B2 b = some o → B b = some o ∨ H b = none ∨ b = a3 := fun b o h => by
    rcases g.new b o h with z | z | z
    · exact .inl z
    · exact .inr (.inl z)
    · exact .inr (.inr (rt_io1 z))
  have I3 : EnvOk K B2 H2 σ (ρ.set i (Var.own w d1)) := by
    refine ⟨I2.sub, by rw [List.length_set]; exact I.len, fun j s e => ?_, fun j l b hjl h1 h2 => I.sep j l b hjl (ow_iff h1) (ow_iff h2)⟩
    by_cases hj : j = i
    · subst hj
      rw [List.getElem?_set_self hil] at e
      cases e
      exact var_own.mpr ⟨a3, ha, o3⟩
    · rw [List.getElem?_set_ne (Ne.symm hj)] at e
      have qv := I.var j s e
      have ownk : ∀ {d : D} {b : Addr}, isOw (some s) = true → σ[j]? = some (some (.ref b)) → Own K B H d b → Own K B2 H2 d b := fun {d b} wr e1 ob => by
        have ne : b ≠ a3 := fun z => I.sep j i a3 hj (by rw [e]; exact wr) (by rw [hi]; exact own_ow) (by rw [← z]; exact e1) ha
        obtain ⟨ob2, ho⟩ := ob.some
        refine ob.mono g.bsub ?_ fun o h => keep b o ne h
        cases q : B2 b with
        | none => rfl
        | some u =>
          rcases nw b u q with z | z | z
          · rw [ob.none] at z; cases z
          · rw [ho] at z; cases z
          · exact (ne z).elim
      cases s with
      | un => trivial
      | fz d => obtain ⟨v, e1, rp⟩ := qv; exact ⟨v, e1, rp.mono g.bsub⟩
      | ow d => obtain ⟨b, e1, ob⟩ := qv; exact ⟨b, e1, ownk rfl e1 ob⟩
      | io d => obtain ⟨b, e1, ob⟩ := qv; exact ⟨b, e1, ownk rfl e1 ob⟩
  have g3 : Go (Rt σ ρ) B H (Rt σ (ρ.set i (Var.own w d1))) B2 H2 := ⟨g.bsub, fun b o h n => keep b o (fun z => n (z ▸ rtA)) h, g.there, fun b o h => by
    rcases nw b o h with z | z | z
    · exact .inl z
    · exact .inr (.inl z)
    · exact .inr (.inr (z ▸ rtA)), fun b ⟨j, h1, h2⟩ => .inl ⟨j, ow_iff h1, h2⟩⟩
  refine q v B2 H2 I3 (g0.trans g3) ?_
  cases r with
  | un => exact rc
  | fz d => exact rc
  | io d => exact rc
  | ow d =>
    obtain ⟨b, e, o, n⟩ := rc
    refine ⟨b, e, o, fun z => ?_, g0.free n⟩
    obtain ⟨j, h1, h2⟩ := z
    obtain ⟨o2, h3⟩ := I.rt ⟨j, ow_iff h1, h2⟩
    rw [n] at h3
    cases h3
/-- f(x, e, ..), x an owned name -/
theorem ev_callIo {w : Bool} {nm x : Str} {pn : Pos} (F : Fc X.prog X.w X.K X.mg X.base x ps k S) (hr : Room k X.A) (hg : Gl X x) (hi : ρ[i]? = some (Var.own w d0)) (hN : X.N[i]? = some nm) (ha : EvA X es ρ ds ρ1) (hi1 : ρ1[i]? = some (Var.own w d0)) (hs : S (.io d0 :: ds.map .fz) r (.io d1 :: ds.map .fz))
    (hv : Vis X.env.scope nm := by first | exact Or.inl rfl | exact Or.inr (Or.inl rfl) | exact Or.inr (Or.inr rfl)) (hd : (nm == ("__debug__" : Str)) = false := by decide) (hcd : (nm == ("__classdict__" : Str)) = false := by decide) (hdb : (x == ("__debug__" : Str)) = false := by decide)
    (he : starEach (.Name nm pn :: es) X.env = (false, eval (.Name nm pn) X.env) :: starEach es X.env := by first | exact star_cons rfl | rfl) (hpl : (backTo pos (starEach es X.env)).any (·.1) = false := by first | exact plain_star rfl | rfl) : EvD X (.Call (.Name x p) (.Name nm pn :: es) [] pos) ρ r (ρ1.set i (Var.own w d1)) := .mk fun σ B H Q I q => by
  obtain ⟨f, fd, F, hm, hk, hb⟩ := F
  obtain ⟨a, e1, o⟩ := var_own.mp (I.var i _ hi)
  refine wE.of (pe_call F hr hg hm hk hb .nil pass0 (pa_cons (pe_var hN hv hd hcd) pa_w he) hdb he hpl) ⟨.ref a, e1, ha σ B H _ I fun vs B1 H1 I1 g1 r1 => ?_⟩
  exact io_call I1 g1 hi1 e1 r1 hs q
/-! ### o.m(..) -/
/-- a method of the class at C, known by its name -/
def Fm (P : Program) (w : World) (K : PySem.W.Frag) (mg : Str → Option Value) (base : Heap) (C : Addr) (m : Str) (ps : List Str) (k : Nat) (S : FS) : Prop :=
  ∃ f fd, FnOk P w K mg base CX0 k f fd ps (spF K S) ∧ Meth K C m f ∧ Cls K C ∧ Binds K fd ps []
theorem look_none {C : Type} : ∀ {fs : List Str} {ws : List C} {m : Str}, fs.contains m = false → (fs.zip ws).lookup m = none
  | [], _, _, _ => rfl
  | _ :: _, [], _, _ => rfl
  | g :: fs, w :: ws, m, h => by
    rw [List.zip_cons_cons, List.lookup_cons]
    rw [List.contains_cons, Bool.or_eq_false_iff] at h
    rw [show (m == g) = false from h.1]
    exact look_none h.2
theorem ev_meth0 {C : Addr} {fs : List Str} {ls : List D} {m : Str} {apos : Pos} {pl : Sem Bool} (F : Fm X.prog X.w X.K X.mg X.base C m ps k S) (hr : Room k X.A) (he : EvD X e ρ (.fz (.ins C fs ls)) ρ1) (hf : fs.contains m = false) (hs : S [.fz (.ins C fs ls)] r [.fz (.ins C fs ls)])
    (ht : eval (.Call (.Attribute e m apos) [] [] pos) X.env = (do
      let ov ← eval e X.env
      standAt apos.atName
      let (f, first) ← holding [ov] (getMethod ov m pl)
      callWith pos f first (backTo pos (starEach [] X.env)) (backToKw pos (keywordEach [] X.env))) := by rfl) : EvD X (.Call (.Attribute e m apos) [] [] pos) ρ r ρ1 := .mk fun σ B H Q I q => by
  obtain ⟨f, fd, F, hm, cl, hb⟩ := F
  refine wE.of (pe_meth0 pe_w cl hm F hr hb .nil pass0 ht) (he σ B H _ I fun v B1 H1 I1 g1 r1 => ?_)
  have r1' := r1
  obtain ⟨a, dx, ws, e1, h1, hl, rl⟩ := r1'
  exact ⟨a, dx, _, e1, I1.sub _ _ h1, look_none hf, call_fin (ds := [.ins C fs ls]) (vs := [v]) I1 g1 (RepL.one r1) hs q⟩

/-! ### new instances -/
theorem make_fin {K : PySem.W.Frag} {σ : L2.St} {W0 : Addr → Prop} {B0 H0 B H : Hp} {C x dx : Addr} {vs : List V} {Q : VK} (I : EnvOk K B H σ ρ) (g0 : Go W0 B0 H0 (Rt σ ρ) B H) (hx : H x = none) (hdx : H dx = none) (ne : dx ≠ x) (rv : RepL K B ds vs)
    (hs : S (.io (.ins C [] []) :: ds.map .fz) (.fz .non) (.io d1 :: ds.map .fz)) (q : ∀ v B2 H2, EnvOk K B2 H2 σ ρ → Go W0 B0 H0 (Rt σ ρ) B2 H2 → ResOk K H0 (Rt σ ρ) B2 H2 (.ow d1) v → Q v H2) :
    spF K S (.ref x :: vs) (upd (upd H dx (.own x)) x (.ins C dx [])) (fun v H2 => v = .non ∧ Q (.ref x) H2) E0 := by
  have bx : B x = none := I.sub.free hx
  have sub : Same B (upd (upd H dx (.own x)) x (.ins C dx [])) := fun b o e => by
    have h := I.sub _ _ e
    rw [upd_ne (ne_of_none h hx), upd_ne (ne_of_none h hdx)]
    exact h
  have ow : Own K B (upd (upd H dx (.own x)) x (.ins C dx [])) (.ins C [] []) x := ⟨bx, dx, [], upd_same, rfl, rfl⟩
  refine ⟨B, _, .fz .non, _, EnvOk.io1 sub ow rv, hs, fun v B2 H2 I2 g rc => ⟨rc, ?_⟩⟩
  obtain ⟨a3, e3, o3⟩ := I2.var 0 (.io d1) rfl
  have e4 : a3 = x := by cases e3; rfl
  subst e4
  have gr : Grw B H B2 H2 := ⟨I2.sub, g.bsub, fun b o h => g.keep b o (by rw [upd_ne (ne_of_none h hx), upd_ne (ne_of_none h hdx)]; exact h) (fun z => by
    have e := rt_io1 z
    rw [e, hx] at h
    cases h), fun b o h => by
    rcases g.new b o h with z | z | z
    · exact .inl z
    · by_cases z1 : b = a3
      · rw [z1]; exact .inr hx
      · by_cases z2 : b = dx
        · rw [z2]; exact .inr hdx
        · rw [upd_ne z1, upd_ne z2] at z
          exact .inr z
    · rw [rt_io1 z]; exact .inr hx⟩
  obtain ⟨i1, i2, i3⟩ := fin_op (res := .ow d1) (u := .ref a3) I g0 gr ⟨a3, rfl, o3, hx⟩
  exact q _ B2 H2 i1 i2 i3
/-- C's __init__, known -/
structure FInit (P : Program) (w : World) (K : PySem.W.Frag) (mg : Str → Option Value) (base : Heap) (x : Str) (C : Addr) (ps : List Str) (k : Nat) (S : FS) (f : Addr) (fd : FuncData) : Prop where
  fnok : FnOk P w K mg base CX0 k f fd ps (spF K S)
  makes : Mk K C f
  name : mg x = some (.ref C)
/-- C(e, ..), the defaults dds behind -/
theorem ev_make {C : Addr} {x : Str} {f : Addr} {fd : FuncData} {dvs : List V} {us : List Value} (F : FInit X.prog X.w X.K X.mg X.base x C ps k S f fd) (hb : Binds X.K fd ps us) (hd : Vals dvs us) (hdd : ∀ B, RepL X.K B dds dvs) (hr : Room (k + 1) X.A) (hg : Gl X x) (ha : EvA X (e :: es) ρ ds ρ1) (hs : S (.io (.ins C [] []) :: (ds ++ dds).map .fz) (.fz .non) (.io d1 :: (ds ++ dds).map .fz))
    (hdb : (x == ("__debug__" : Str)) = false := by decide) (he : starEach (e :: es) X.env = (false, eval e X.env) :: starEach es X.env := by first | exact star_cons rfl | rfl) (hpl : (backTo pos (starEach es X.env)).any (·.1) = false := by first | exact plain_star rfl | rfl) : EvD X (.Call (.Name x p) (e :: es) [] pos) ρ (.ow d1) ρ1 := .mk fun σ B H Q I q =>
  wE.of (pe_make F.makes F.fnok hr hg F.name hb hd pass0 pa_w hdb he hpl) (ha σ B H _ I fun vs B1 H1 I1 g1 r1 xa dx h1 h2 ne => make_fin I1 g1 h1 h2 ne (r1.append (hdd B1)) hs q)
/-- keywords -/
def wK (X : Cx) (kws : List Keyword) : TA := fun σ H Q => ∀ (pos : Pos) (pins : List (Addr × Obj)) (s : Shared), Inv X pins σ H s → wpAny (model X.prog X.w) X.A (evalAll ((backToKw pos (keywordEach kws X.env)).map (·.2))) (AP X pins σ Q) X.xe s
theorem pk_w {kws : List Keyword} : PK X kws (wK X kws) := ⟨fun pos pins s _ _ _ I h => h pos pins s I⟩
theorem wK.of {kws : List Keyword} {t : TA} {σ : L2.St} {H : Hp} {Q : List V → Hp → Prop} (h : PK X kws t) (q : t σ H Q) : wK X kws σ H Q := fun pos pins s I => h.run pos pins s σ H Q I q
structure EvK (X : Cx) (kws : List Keyword) (ρ : VE) (ds : List D) (ρ' : VE) : Prop where
  run : ∀ (σ : L2.St) (B H : Hp) (Q : List V → Hp → Prop), EnvOk X.K B H σ ρ →
  (∀ vs B' H', EnvOk X.K B' H' σ ρ' → Go (Rt σ ρ) B H (Rt σ ρ') B' H' → RepL X.K B' ds vs → Q vs H') → wK X kws σ H Q
instance {X : Cx} {kws : List Keyword} {ρ : VE} {ds : List D} {ρ' : VE} : CoeFun (EvK X kws ρ ds ρ') fun _ => ∀ (σ : L2.St) (B H : Hp) (Q : List V → Hp → Prop), EnvOk X.K B H σ ρ →
  (∀ vs B' H', EnvOk X.K B' H' σ ρ' → Go (Rt σ ρ) B H (Rt σ ρ') B' H' → RepL X.K B' ds vs → Q vs H') → wK X kws σ H Q := ⟨EvK.run⟩
theorem ek_nil : EvK X [] ρ [] ρ := .mk fun σ B H Q I q => wK.of pk_nil (q [] B H I (Go.refl _ _ _) rfl)
theorem ek_cons {nm : Option Str} {kpos : Pos} {kws : List Keyword} (ha : EvD X e ρ (.fz x) ρ1) (hr : EvK X kws ρ1 ds ρ2) : EvK X (⟨nm, e, kpos⟩ :: kws) ρ (x :: ds) ρ2 := .mk fun σ B H Q I q =>
  wK.of (pk_cons pe_w pk_w) (ha σ B H _ I fun v B1 H1 I1 g1 r1 => hr σ B1 H1 _ I1 fun vs B2 H2 I2 g2 r2 => q (v :: vs) B2 H2 I2 (g1.trans g2) ⟨v, vs, rfl, Rep.mono g2.bsub r1, r2⟩)
/-- C(e, .., k = v, ..) -/
theorem ev_makeK {C : Addr} {x : Str} {f : Addr} {fd : FuncData} {n : Nat} {ks : List Str} {kws : List Keyword} {zs gs : List D} {g : List Value → List Value → List Value} {gV : List V → List V → List V} (F : FInit X.prog X.w X.K X.mg X.base x C ps k S f fd) (hb : KBn X.K fd ps (n + 1) ks g gV) (hr : Room (k + 1) X.A) (hg : Gl X x) (ha : EvA X (e :: es) ρ ds ρ1)
    (hk : EvK X kws ρ1 zs ρ2) (hln : ds.length = n) (hlk : zs.length = ks.length)
    (hgv : ∀ (B : Hp) (xa : V) (vs ws : List V), RepL X.K B ds vs → RepL X.K B zs ws → ∃ us, gV (xa :: vs) ws = xa :: us ∧ RepL X.K B gs us) (hs : S (.io (.ins C [] []) :: gs.map .fz) (.fz .non) (.io d1 :: gs.map .fz))
    (hall : (backToKw pos (keywordEach kws X.env)).all (·.1.isSome) = true := by rfl) (hks : (backToKw pos (keywordEach kws X.env)).filterMap (·.1) = ks := by rfl) (hdb : (x == ("__debug__" : Str)) = false := by decide)
    (he : starEach (e :: es) X.env = (false, eval e X.env) :: starEach es X.env := by first | exact star_cons rfl | rfl) (hpl : ((backTo pos (starEach (e :: es) X.env)).any (·.1) || (backToKw pos (keywordEach kws X.env)).any (·.1.isNone)) = false := by rfl) : EvD X (.Call (.Name x p) (e :: es) kws pos) ρ (.ow d1) ρ2 := .mk fun σ B H Q I q =>
  wE.of (pe_makeK F.makes F.fnok hr hg F.name hb pass0 pa_w pk_w hall hks hdb he hpl) (ha σ B H _ I fun vs B1 H1 I1 g1 r1 => hk σ B1 H1 _ I1 fun ws B2 H2 I2 g2 r2 => ⟨by rw [r1.length, hln], by rw [r2.length, hlk], fun xa dx h1 h2 ne => by
    obtain ⟨us, e1, r3⟩ := hgv B2 (.ref xa) vs ws (RepL.mono g2.bsub r1) r2
    rw [e1]
    exact make_fin I2 (g1.trans g2) h1 h2 ne r3 hs q⟩)

/-! ### o.f = e -/
theorem putF_new {f : Str} {v : V} : ∀ {fs : List Str} {ws : List V}, fs.length = ws.length → fs.contains f = false → putF f v (fs.zip ws) = (fs ++ [f]).zip (ws ++ [v])
  | [], [], _, _ => rfl
  | [], _ :: _, h, _ => by simp at h
  | _ :: _, [], h, _ => by simp at h
  | g :: fs, w :: ws, hl, h => by
    rw [List.contains_cons, Bool.or_eq_false_iff] at h
    have ih := putF_new (f := f) (v := v) (fs := fs) (ws := ws) (by simpa using hl) h.2
    have e : (g == f) = false := by
      have := h.1
      rw [Bool.eq_false_iff] at this ⊢
      intro z
      exact this (by rw [eq_of_beq z]; exact beq_self_eq_true _)
    have ne : ¬ g = f := fun z => by rw [z, beq_self_eq_true] at e; cases e
    show (if g = f then (g, v) :: fs.zip ws else (g, w) :: putF f v (fs.zip ws)) = _
    rw [if_neg ne, ih]
    rfl
/-- o.f = value, a new field -/
theorem x1_fldN {w : Bool} {C : Addr} {fs : List Str} {ls : List D} {nm f : Str} {px pf : Pos} {κ : KS} {value : Expr} (i : Nat) (hN : X.N[i]? = some nm) (he : EvD X value ρ (.fz y) ρ1) (hi : ρ1[i]? = some (Var.own w (.ins C fs ls))) (cl : Cls X.K C) (na : NoAttr X.K C f) (hf : fs.contains f = false) (hl : fs.length < 1000)
    (k : κ.nx (ρ1.set i (Var.own w (.ins C (fs ++ [f]) (ls ++ [y]))))) (hs : swapsWith value (some (.Attribute (.Name nm px) f pf)) pos.line X.env = pure false := by rfl) (io : IoK ρ ρ1 := by first | exact IoK.refl _ | exact ioK_ok rfl)
    (hv : Vis X.env.scope nm := by first | exact Or.inl rfl | exact Or.inr (Or.inl rfl) | exact Or.inr (Or.inr rfl)) (hd : (nm == ("__debug__" : Str)) = false := by decide) (hcd : (nm == ("__classdict__" : Str)) = false := by decide) : X1 X (.Assign [.Attribute (.Name nm px) f pf] value pos) ρ κ := .mk fun σ B H D I S => by
  refine wS.of (ps_fld (pe_var hN hv hd hcd) pe_w hs) (he σ B H _ I fun v B1 H1 I1 g1 r1 => ?_)
  obtain ⟨a, e1, o⟩ := var_own.mp (I1.var i _ hi)
  obtain ⟨n0, dx, ws, h0, hlen, rl⟩ := o
  refine ⟨.ref a, e1, a, C, dx, _, rfl, h0, cl, na, ?_, ?_⟩
  · rw [List.length_zip]
    omega
  · rw [putF_new hlen hf]
    have ow : Own X.K B1 (upd H1 a (.ins C dx ((fs ++ [f]).zip (ws ++ [v])))) (.ins C (fs ++ [f]) (ls ++ [y])) a := ⟨n0, dx, _, upd_same, by simp [hlen], rl.append (RepL.one r1)⟩
    obtain ⟨I3, g3, io3⟩ := write_step (o' := .ins C dx ((fs ++ [f]).zip (ws ++ [v]))) I1 hi e1 n0 ⟨_, h0⟩ ow
    exact S.nx σ _ B1 _ k I3 (go_s (g1.trans g3) (io.trans io3))

/-! ### dicts with fixed keys -/
theorem ksd_get {K : PySem.W.Frag} {B : Hp} {κ : Type} [DecidableEq κ] : ∀ {ks : List κ} {ls : List D} {ws : List V} {k : κ} {j : Nat} {d : D}, ks.length = ws.length → RepL K B ls ws → ks.idxOf? k = some j → ls[j]? = some d → ∃ v, valV (ks.zip ws) k = some v ∧ Rep K B d v
  | [], _, _, _, _, _, _, _, h, _ => by simp at h
  | q :: ks, [], _, _, _, _, _, _, _, h => by simp at h
  | q :: ks, l :: ls, _, k, j, d, hl, ⟨v, w, e, r1, r2⟩, h, hd => by
    subst e
    rw [List.zip_cons_cons]
    by_cases e : q = k
    · subst e
      rw [List.idxOf?_cons] at h
      simp at h
      subst h
      cases hd
      exact ⟨v, valV_pos rfl, r1⟩
    · rw [List.idxOf?_cons] at h
      have e' : (q == k) = false := by simpa using e
      rw [e'] at h
      simp at h
      obtain ⟨j2, h1, h2⟩ := h
      subst h2
      obtain ⟨u, h3, h4⟩ := ksd_get (ks := ks) (ls := ls) (ws := w) (by simpa using hl) r2 h1 (by simpa using hd)
      refine ⟨u, ?_, h4⟩
      unfold valV at h3 ⊢
      rw [List.find?_cons]
      simp only [e, decide_false]
      exact h3
theorem ksd_any {κ : Type} [DecidableEq κ] : ∀ {ks : List κ} {ws : List V} {k : κ} {j : Nat}, ks.length = ws.length → ks.idxOf? k = some j → ((ks.zip ws).any fun kv => decide (kv.1 = k)) = true
  | [], _, _, _, _, h => by simp at h
  | q :: ks, [], _, _, hl, _ => by simp at hl
  | q :: ks, w :: ws, k, j, hl, h => by
    rw [List.zip_cons_cons, List.any_cons]
    by_cases e : q = k
    · simp [e]
    · rw [List.idxOf?_cons] at h
      have e' : (q == k) = false := by simpa using e
      rw [e'] at h
      simp at h
      obtain ⟨j2, h1, h2⟩ := h
      rw [ksd_any (ks := ks) (ws := ws) (by simpa using hl) h1]
      simp
theorem ksd_put {κ : Type} [DecidableEq κ] {v : V} : ∀ {ks : List κ} {ws : List V} {k : κ} {j : Nat}, ks.Nodup → ks.length = ws.length → ks.idxOf? k = some j → (ks.zip ws).map (fun kv => if kv.1 = k then (kv.1, v) else kv) = ks.zip (ws.set j v)
  | [], _, _, _, _, _, h => by simp at h
  | q :: ks, [], _, _, _, hl, _ => by simp at hl
  | q :: ks, w :: ws, k, j, nd, hl, h => by
    rw [List.zip_cons_cons, List.map_cons]
    by_cases e : q = k
    · subst e
      rw [List.idxOf?_cons] at h
      simp at h
      subst h
      have hn := (List.nodup_cons.mp nd).1
      rw [if_pos rfl, List.set_cons_zero, List.zip_cons_cons]
      congr 1
      refine (List.map_congr_left (g := id) fun kv hm => ?_).trans (List.map_id _)
      have : kv.1 ∈ ks := (List.of_mem_zip (a := kv.1) (b := kv.2) (by simpa using hm)).1
      rw [if_neg (fun z : kv.1 = q => hn (z ▸ this))]
      rfl
    · rw [List.idxOf?_cons] at h
      have e' : (q == k) = false := by simpa using e
      rw [e'] at h
      simp at h
      obtain ⟨j2, h1, h2⟩ := h
      subst h2
      rw [if_neg e, List.set_cons_succ, List.zip_cons_cons, ksd_put (ks := ks) (ws := ws) (List.nodup_cons.mp nd).2 (by simpa using hl) h1]
end
end DL

set_option maxHeartbeats 4000000
/-! DL14: the ones of a number's binary text. -/
namespace DL
open PySem PySem.Spec PyProof.Rows L2
def binS (n : Nat) : PySem.Str := ⟨((Nat.toDigits 2 n).map Char.toNat).toArray⟩
theorem ret_text2 {M : Model} {A : Around} {E : Value → Shared → Prop} {s : Shared} {X T : PySem.Str} {Q : PySem.Fin → Shared → Prop} (e : X = T) (hL : T.length ≤ sizeLine) (h : ∀ t k, Q (.done (.ret (.str T t))) { s with toks := k }) : wpAny M A (retStr X) Q E s := by
  subst e
  exact PySem.W.KXf.ret_text rfl hL h
def lay (ds : List Nat) : PySem.Str := ⟨(List.replicate ((-1 : Int) - ((([] : List Nat).length : Int) + (([] : List Nat).length : Int) + (([] : List Nat).length : Int)) - ((if ds.isEmpty = true then [] else List.replicate ((0 : Int).toNat - ds.length) 48 ++ ds : List Nat).length : Int)).toNat 32 ++ [] ++ [] ++ List.replicate 0 32 ++ (if ds.isEmpty = true then [] else List.replicate ((0 : Int).toNat - ds.length) 48 ++ ds) ++ [] ++ List.replicate 0 32).toArray⟩
theorem lay_eq (ds : List Nat) : lay ds = ⟨ds.toArray⟩ := by
  unfold lay
  have e : (if ds.isEmpty = true then [] else List.replicate ((0 : Int).toNat - ds.length) 48 ++ ds : List Nat) = ds := by
    cases ds <;> simp
  rw [e]
  have e2 : ((-1 : Int) - ((([] : List Nat).length : Int) + (([] : List Nat).length : Int) + (([] : List Nat).length : Int)) - (ds.length : Int)).toNat = 0 := by
    simp
  rw [e2]
  simp
theorem int_b (n : Int) (hn : (binS n.natAbs).length ≤ sizeLine) (h0 : 0 ≤ n) (t u : Tok) : Meets (Builtin.«int.__format__» ⟨[.int n t, .str ⟨#[98]⟩ u], []⟩) (fun _ R s => ∀ t2 k, R (.ok (.ret (.str (binS n.natAbs) t2))) { s with toks := k }) := by
  apply PySem.W.KPc.meets_of
  intro _ _ _ _ _ _ hq
  unfold Builtin.«int.__format__»
  refine wpAny_bind (wpAny_of_eq (a := (_, _)) rfl ?_)
  refine wpAny_bind (wpAny_of_eq (a := _) rfl ?_)
  dsimp only
  rw [if_neg (show ¬ ((Value.str ⟨#[98]⟩ u == Value.none) = true) from Bool.false_ne_true)]
  refine wpAny_bind (wpAny_typeNameOf (T := "str") (typeIs_str _ _ _) (by decide) fun _ => ?_)
  rw [show asStr? (Value.str ⟨#[98]⟩ u) = pure (some ⟨#[98]⟩) from rfl, pure_bind]
  dsimp only
  rw [if_neg (show ¬ (((⟨#[98]⟩ : PySem.Str).length == 0) = true) by decide)]
  rw [if_neg (by decide)]
  refine wpAny_bind (wpAny_typeNameOfCut_int ?_)
  rw [show Builtin.Float.parseFormatSpec [98] "int" 62 = .ok { fill := 32, align := 62, type := some 98 } by kernel_rfl]
  dsimp only [Option.getD]
  rw [if_pos (by kernel_rfl)]
  refine ret_text2 (T := binS n.natAbs) ?_ hn hq
  rw [decide_eq_false (by omega)]
  refine Eq.trans (b := lay ((Nat.toDigits 2 n.natAbs).map Char.toNat)) ?_ (lay_eq _)
  rfl
/-! ### how many ones -/
def popF : Nat → Nat → Nat
  | 0, _ => 0
  | k + 1, n => if n = 0 then 0 else n % 2 + popF k (n / 2)
def pop (n : Nat) : Nat := popF n n
theorem popF_eq : ∀ {k j n : Nat}, n ≤ k → n ≤ j → popF k n = popF j n
  | 0, 0, _, _, _ => rfl
  | 0, j + 1, n, h, _ => by
    have : n = 0 := by omega
    subst this
    rfl
  | k + 1, 0, n, _, h => by
    have : n = 0 := by omega
    subst this
    rfl
  | k + 1, j + 1, n, h1, h2 => by
    unfold popF
    by_cases e : n = 0
    · rw [if_pos e, if_pos e]
    · rw [if_neg e, if_neg e, popF_eq (k := k) (j := j) (n := n / 2) (by omega) (by omega)]
theorem digits_pop : ∀ (k n : Nat) (ds : List Char), n < k → ((Nat.toDigitsCore 2 k n ds).map Char.toNat).count 49 = popF k n + (ds.map Char.toNat).count 49
  | 0, n, ds, h => absurd h (Nat.not_lt_zero _)
  | k + 1, n, ds, h => by
    unfold Nat.toDigitsCore popF
    have hd : (((n % 2).digitChar :: ds).map Char.toNat).count 49 = n % 2 + (ds.map Char.toNat).count 49 := by
      rw [List.map_cons]
      have : n % 2 = 0 ∨ n % 2 = 1 := by omega
      rcases this with e | e
      · rw [e, List.count_cons_of_ne (by decide)]
        omega
      · rw [e, show (Nat.digitChar 1).toNat = 49 by decide, List.count_cons_self]
        omega
    by_cases e : n = 0
    · subst e
      simp only [Nat.zero_div, if_pos]
      rw [hd]
    · rw [if_neg e]
      by_cases e2 : n / 2 = 0
      · simp only [e2, if_pos]
        rw [hd]
        have : popF k 0 = 0 := by cases k <;> rfl
        rw [this]
        omega
      · simp only [e2, if_false]
        rw [digits_pop k (n / 2) _ (by omega), hd]
        omega
theorem digits_len : ∀ (k n : Nat) (ds : List Char), (Nat.toDigitsCore 2 k n ds).length ≤ k + ds.length
  | 0, n, ds => by
    unfold Nat.toDigitsCore
    omega
  | k + 1, n, ds => by
    unfold Nat.toDigitsCore
    by_cases e : n / 2 = 0
    · simp only [e, if_pos, List.length_cons]
      omega
    · simp only [e, if_false]
      have := digits_len k (n / 2) ((n % 2).digitChar :: ds)
      rw [List.length_cons] at this
      omega
theorem binS_pop (n : Nat) : (binS n).cps.toList.count 49 = pop n := by
  unfold binS Nat.toDigits pop
  show (((Nat.toDigitsCore 2 (n + 1) n []).map Char.toNat).toArray.toList).count 49 = _
  rw [List.toList_toArray, digits_pop _ _ _ (Nat.lt_succ_self n)]
  rw [popF_eq (k := n + 1) (j := n) (n := n) (by omega) (Nat.le_refl _)]
  rfl
theorem binS_len (n : Nat) : (binS n).length ≤ n + 1 := by
  unfold binS Nat.toDigits PySem.Str.length
  show ((Nat.toDigitsCore 2 (n + 1) n []).map Char.toNat).toArray.size ≤ _
  rw [List.size_toArray, List.length_map]
  have := digits_len (n + 1) n []
  rw [List.length_nil] at this
  omega
theorem sub_one {x : PySem.Str} {c i : Nat} (h : i < x.cps.size) : Builtin.Str.subAt x ⟨#[c]⟩ i = decide (x.cps[i] = c) := by
  unfold Builtin.Str.subAt
  show (x.cps.extract i (i + 1) == #[c]) = _
  have e : x.cps.extract i (i + 1) = #[x.cps[i]] := by
    apply Array.ext
    · simp
      omega
    · intro j h1 h2
      have : j = 0 := by simp at h2; omega
      subst this
      simp
  rw [e]
  by_cases q : x.cps[i] = c
  · simp [q]
  · simp [q]
theorem occ_step (x : PySem.Str) (c : Nat) : ∀ (n i : Nat) (st : Array Nat × Nat), i + n = x.cps.size + 1 → st.2 ≤ i → st.1.size = (x.cps.toList.take i).count c →
    (forIn (List.range' i n) st (StrLaws.occBody x ⟨#[c]⟩ x.cps.size (x.cps.size + 1))).run.fst.size = x.cps.toList.count c
  | 0, i, st, h1, h2, h3 => by
    rw [List.range'_zero, List.forIn_nil]
    show st.1.size = _
    rw [h3, List.take_of_length_le (by simp; omega)]
  | n + 1, i, st, h1, h2, h3 => by
    rw [List.range'_succ, List.forIn_cons]
    have hc : (x.cps.toList.take i).count c ≤ i := Nat.le_trans List.count_le_length (by rw [List.length_take]; exact Nat.min_le_left ..)
    unfold StrLaws.occBody
    by_cases hi : i < x.cps.size
    · have tk : x.cps.toList.take (i + 1) = x.cps.toList.take i ++ [x.cps[i]] := by
        rw [List.take_add_one]
        simp [hi]
      by_cases q : x.cps[i] = c
      · rw [if_pos ⟨⟨⟨by omega, h2⟩, by show i + 1 ≤ _; omega⟩, by rw [sub_one hi, q]; simp⟩]
        refine occ_step x c n (i + 1) _ (by omega) (Nat.le_refl _) ?_
        show (st.1.push i).size = _
        rw [Array.size_push, h3, tk, List.count_append, q]
        simp
      · rw [if_neg fun z => q (by have := z.2; rw [sub_one hi] at this; simpa using this)]
        refine occ_step x c n (i + 1) _ (by omega) (by show st.2 ≤ i + 1; omega) ?_
        show st.1.size = _
        rw [h3, tk, List.count_append, List.count_cons_of_ne q]
        simp
    · rw [if_neg fun z => by have : i + 1 ≤ x.cps.size := z.1.2; omega]
      refine occ_step x c n (i + 1) _ (by omega) (by show st.2 ≤ i + 1; omega) ?_
      show st.1.size = _
      rw [h3, List.take_of_length_le (by simp; omega), List.take_of_length_le (by simp; omega)]
theorem count_one (x : PySem.Str) (c : Nat) : Txt.count x ⟨#[c]⟩ = (x.cps.toList.count c : Nat) := by
  unfold Txt.count
  rw [StrLaws.occ_eq, Array.length_toList]
  have := occ_step x c (x.cps.size + 1) 0 (#[], 0) (by omega) (Nat.le_refl _) rfl
  exact congrArg (fun n : Nat => (n : Int)) this
section
variable {X : Cx} {e : Expr} {te : TE} {pos : Pos} {ρ ρ1 : VE} {n : Nat}
def tFmtB (te : TE) : TE := fun σ H Q => te σ H fun x H1 => ∃ n : Int, x = .int n ∧ 0 ≤ n ∧ (binS n.natAbs).length ≤ sizeLine ∧ Q (.str (binS n.natAbs)) H1
theorem pe_fmtB {k : Nat} {p1 p2 : Pos} (he : PE X e te) : PE X (.FormattedValue e (-1) (some (.JoinedStr [.Constant (.str "b") k p1] p2)) pos) (tFmtB te) := ⟨fun pins s σ H Q I h => by
  refine wpAny_FormattedValue_spec (thn (he.run pins s σ H _ I h) fun v s1 z => ?_)
  obtain ⟨x, H1, I1, r, m, ex, h0, hl, q⟩ := z
  subst ex
  obtain ⟨t0, ev⟩ := (show ∃ t, v = Value.int m t from r)
  subst ev
  refine thn ((pe_joined1 (pe_str (X := X) (x := "b") (j := k) (pos := p1)) (pos := p2)).run pins s1 σ H1 (fun y H2 => y = .str "b" ∧ H2 = H1) I1 ⟨rfl, rfl⟩) fun u s2 z => ?_
  obtain ⟨y, H2, I2, r2, e2, e3⟩ := z
  subst e2 e3
  obtain ⟨t2, eu⟩ := (show ∃ t, u = Value.str "b" t from r2)
  subst eu
  refine ⟨_, t2, rfl, PySem.W.KXf.field_int (spec' := ⟨#[98]⟩) (y := binS m.natAbs) (by decide +kernel) rfl (by decide +kernel) (fun u => int_b m hl h0 _ u) fun t3 k => ⟨.str (binS m.natAbs), H2, I2.tok k, ⟨t3, rfl⟩, q⟩⟩⟩
/-- f"{mask:b}".count("1") -/
theorem ev_ones {k k2 : Nat} {p1 p2 p3 p4 pa cp : Pos} (ha : EvD X e ρ (.fz (eN n)) ρ1) (hn : n < 16777216) (hb : attributeBase (.JoinedStr [.FormattedValue e (-1) (some (.JoinedStr [.Constant (.str "b") k p1] p2)) p3] p4) "count" X.env (eval (.JoinedStr [.FormattedValue e (-1) (some (.JoinedStr [.Constant (.str "b") k p1] p2)) p3] p4) X.env) = eval (.JoinedStr [.FormattedValue e (-1) (some (.JoinedStr [.Constant (.str "b") k p1] p2)) p3] p4) X.env := by rfl)
    (hl : (pa.endLine == cp.line) = true := by rfl) (hs : starEach [.Constant (.str "1") k2 pos] X.env = [(false, eval (.Constant (.str "1") k2 pos) X.env)] := by first | exact star_one rfl | rfl) :
    EvD X (.Call (.Attribute (.JoinedStr [.FormattedValue e (-1) (some (.JoinedStr [.Constant (.str "b") k p1] p2)) p3] p4) "count" pa) [.Constant (.str "1") k2 pos] [] cp) ρ (.fz (eN (pop n))) ρ1 := .mk fun σ B H Q I q =>
  wE.of (pe_m1 F.slot_str_count F.type_str_count mt_count (pe_joined1 (pe_fmtB pe_w)) pe_str hs hb hl) (ha σ B H _ I fun v B1 H1 I1 g1 r1 => by
    have hl := binS_len n
    refine ⟨n, r1, by omega, by rw [Int.natAbs_natCast, sizeLine_eq]; omega, ⟨_, rfl⟩, _, _, rfl, rfl, ?_⟩
    rw [show (PySem.Str.ofString "1") = ⟨#[49]⟩ by decide +kernel, count_one, Int.natAbs_natCast, binS_pop]
    exact q _ B1 H1 I1 g1 rfl)
end
end DL

/-! DL15: dicts with fixed text keys, list.count, list(range), lists and other things as data. -/
namespace DL
open PySem PySem.Spec PyProof.Rows L2 PySem.W

section
variable {X : Cx} {e a b c : Expr} {es : List Expr} {ρ ρ1 ρ2 ρ3 : VE} {d x y z : D} {r : Var} {pos p : Pos} {i j n m : Nat} {α : Type} {enc : α → D} {l : List α}

/-! ### d["k"] -/
theorem ev_dget {ks : List Key} {ls : List D} {nm : Str} {kk : Nat} {kp : Pos} (hu : X.A.units + 1 < cLine) (ho : EvD X e ρ (.fz (.dk ks ls)) ρ1) (hj : @List.idxOf? Key instBEqOfDecidableEq (.inr nm) ks = some j) (hd : ls[j]? = some d) (hs : NoSl (.Constant (.str nm) kk kp) := by exact fun _ _ => rfl) : EvD X (.Subscript e (.Constant (.str nm) kk kp) pos) ρ (.fz d) ρ1 := .mk fun σ B H Q I q =>
  wE.of (pe_dget hu pe_w pe_str hs) (ho σ B H _ I fun v B1 H1 I1 g1 r1 => by
    obtain ⟨a, ws, e1, h1, hl, rl⟩ := r1
    obtain ⟨u, h2, r2⟩ := ksd_get hl rl hj hd
    exact ⟨a, u, e1, .inl ⟨_, .inr nm, same_rd I1.sub h1, rfl, h2.symm⟩, q u B1 H1 I1 g1 r2⟩)
/-- x["k"] = e, x an owned dict that has the key -/
theorem x1_dput {w : Bool} {ks : List Key} {ls : List D} {nm kn : Str} {px sp kp : Pos} {kk : Nat} {κ : KS} {value : Expr} (i : Nat) (hu : X.A.units + 1 < cLine) (hN : X.N[i]? = some nm) (he : EvD X value ρ (.fz y) ρ1) (hi : ρ1[i]? = some (Var.own w (.dk ks ls))) (hj : @List.idxOf? Key instBEqOfDecidableEq (.inr kn) ks = some j) (nd : ks.Nodup) (hz : ks.length < 1000)
    (k : κ.nx (ρ1.set i (Var.own w (.dk ks (ls.set j y))))) (hs : swapsWith value (some (.Subscript (.Name nm px) (.Constant (.str kn) kk kp) sp)) pos.line X.env = pure false := by rfl) (io : IoK ρ ρ1 := by first | exact IoK.refl _ | exact ioK_ok rfl)
    (hv : Vis X.env.scope nm := by first | exact Or.inl rfl | exact Or.inr (Or.inl rfl) | exact Or.inr (Or.inr rfl)) (hd : (nm == ("__debug__" : Str)) = false := by decide) (hcd : (nm == ("__classdict__" : Str)) = false := by decide) : X1 X (.Assign [.Subscript (.Name nm px) (.Constant (.str kn) kk kp) sp] value pos) ρ κ := .mk fun σ B H D I S => by
  refine wS.of (ps_dput hu (pe_var hN hv hd hcd) pe_str pe_w hs) (he σ B H _ I fun v B1 H1 I1 g1 r1 => ?_)
  obtain ⟨a, e1, o⟩ := var_own.mp (I1.var i _ hi)
  obtain ⟨n0, ws, h0, hlen, rl⟩ := o
  refine ⟨.ref a, e1, a, upd H1 a (.dK (ks.zip (ws.set j v))), rfl, .inl ⟨_, .inr kn, h0, rfl, ?_, ?_⟩, ?_⟩
  · rw [List.length_zip, sizeLine_eq]
    omega
  · unfold putK
    rw [if_pos (ksd_any hlen hj), ksd_put nd hlen hj]
  · have ow : Own X.K B1 (upd H1 a (.dK (ks.zip (ws.set j v)))) (.dk ks (ls.set j y)) a := ⟨n0, _, upd_same, by simp [hlen], RepL.set r1 j rl⟩
    obtain ⟨I3, g3, io3⟩ := write_step (o' := .dK (ks.zip (ws.set j v))) I1 hi e1 n0 ⟨_, h0⟩ ow
    exact S.nx σ _ B1 _ k I3 (go_s (g1.trans g3) (io.trans io3))
/-- the pairs of a display with text keys -/
def EvP (X : Cx) (pos : Pos) (keys : List (Option Expr)) (vals : List Expr) (ρ : VE) (ks : List Key) (ds : List D) (ρ' : VE) : Prop := ∃ trs, PPs X pos keys vals trs ∧ ∀ (σ : L2.St) (B H : Hp) (Q : List (V × V) → Hp → Prop), EnvOk X.K B H σ ρ →
  (∀ ws B' H', EnvOk X.K B' H' σ ρ' → Go (Rt σ ρ) B H (Rt σ ρ') B' H' → ks.length = ws.length → RepL X.K B' ds ws → Q ((ks.zip ws).map fun kv => (kV kv.1, kv.2)) H') → tPairs trs σ H Q
theorem ep_nil : EvP X pos [] [] ρ [] [] ρ := ⟨[], pps_nil, fun σ B H Q I q => q [] B H I (Go.refl _ _ _) rfl rfl⟩
theorem ep_cons {nm : Str} {kk : Nat} {kp : Pos} {keys : List (Option Expr)} {vals : List Expr} {ks : List Key} {ds : List D} (hv : EvD X e ρ (.fz x) ρ1) (hr : EvP X pos keys vals ρ1 ks ds ρ2) : EvP X pos (some (.Constant (.str nm) kk kp) :: keys) (e :: vals) ρ (.inr nm :: ks) (x :: ds) ρ2 := by
  obtain ⟨trs, h1, h2⟩ := hr
  refine ⟨_, pps_cons pe_str pe_w h1, fun σ B H Q I q => ?_⟩
  show wE X e σ H _
  refine hv σ B H _ I fun v B1 H1 I1 g1 r1 => h2 σ B1 H1 _ I1 fun ws B2 H2 I2 g2 hl r2 => ?_
  exact q (v :: ws) B2 H2 I2 (g1.trans g2) (by simp [hl]) ⟨v, ws, rfl, Rep.mono g2.bsub r1, r2⟩
theorem mergeK_nodup : ∀ {ks : List Key} {ws : List V} {acc : List (Key × V)}, ks.Nodup → ks.length = ws.length → (∀ k ∈ ks, k ∉ acc.map (·.1)) → mergeK acc (ks.zip ws) = acc ++ ks.zip ws
  | [], ws, acc, _, _, _ => by simp [mergeK]
  | k :: ks, [], acc, _, h, _ => by simp at h
  | k :: ks, w :: ws, acc, nd, h, hk => by
    have e : putK acc k w = acc ++ [(k, w)] := by
      unfold putK
      rw [if_neg]
      intro z
      rw [List.any_eq_true] at z
      obtain ⟨q, h1, h2⟩ := z
      exact hk k (List.mem_cons_self ..) (List.mem_map.mpr ⟨q, h1, by simpa using h2⟩)
    show mergeK (putK acc k w) (ks.zip ws) = _
    rw [e, mergeK_nodup (List.nodup_cons.mp nd).2 (by simpa using h) fun q hq => ?_]
    · simp
    · rw [List.map_append]
      intro z
      rcases List.mem_append.mp z with z | z
      · exact hk q (List.mem_cons_of_mem _ hq) z
      · have : q = k := by simpa using z
        subst this
        exact (List.nodup_cons.mp nd).1 hq
theorem ev_dict {keys : List (Option Expr)} {vals : List Expr} {ks : List Key} {ds : List D} (h : EvP X pos keys vals ρ ks ds ρ1) (nd : ks.Nodup) (hl : keys.length = vals.length) (hz : ks.length ≤ 15) (h0 : keys ≠ []) (h15 : keys.length ≤ 15) (hall : keys.all (·.isSome) = true := by rfl) : EvD X (.Dict keys vals pos) ρ (.ow (.dk ks ds)) ρ1 := .mk fun σ B H Q I q => by
  obtain ⟨trs, h1, h2⟩ := h
  refine wE.of (pe_disp h1 hall hl h0 h15) fun p hp => ?_
  have I0 := I.grw (Grw.own (o := .dK []) I.sub hp)
  refine h2 σ B _ _ I0 fun ws B1 H1 I1 g1 hlw r1 => ?_
  have notRt : ¬ Rt σ ρ p := fun z => by
    obtain ⟨o, ho⟩ := I.rt z
    rw [hp] at ho
    cases ho
  have hpp : H1 p = some (.dK []) := g1.keep p _ upd_same notRt
  have fr : B1 p = none := by
    cases e : B1 p with
    | none => rfl
    | some u =>
      rcases g1.new p u e with z | z | z
      · rw [I.sub.free hp] at z; cases z
      · rw [upd_same] at z; cases z
      · exact (notRt z).elim
  have notRt1 : ¬ Rt σ ρ1 p := fun z => by
    rcases g1.roots p z with z | z
    · exact notRt z
    · rw [upd_same] at z; cases z
  refine ⟨hpp, ks.zip ws, rfl, by rw [List.length_zip]; omega, ?_⟩
  rw [mergeK_nodup nd hlw (by simp), List.nil_append]
  have sb : Same B1 (upd H1 p (.dK (ks.zip ws))) := fun b o e => by
    rw [upd_ne (ne_of_none e fr)]
    exact I1.sub _ _ e
  have I2 : EnvOk X.K B1 (upd H1 p (.dK (ks.zip ws))) σ ρ1 := ⟨sb, I1.len, fun j s e => by
    have qv := I1.var j s e
    have st : ∀ {b : Addr}, Rt σ ρ1 b → ∀ o, H1 b = some o → upd H1 p (.dK (ks.zip ws)) b = some o := fun {b} w o h => by
      rw [upd_ne (show b ≠ p from fun z => notRt1 (by rw [← z]; exact w))]
      exact h
    cases s with
    | un => trivial
    | fz d => exact qv
    | ow d => obtain ⟨b, e1, o⟩ := qv; exact ⟨b, e1, o.mono (Same.refl _) o.none (st ⟨j, by rw [e]; rfl, e1⟩)⟩
    | io d => obtain ⟨b, e1, o⟩ := qv; exact ⟨b, e1, o.mono (Same.refl _) o.none (st ⟨j, by rw [e]; rfl, e1⟩)⟩, I1.sep⟩
  have ow : Own X.K B1 (upd H1 p (.dK (ks.zip ws))) (.dk ks ds) p := ⟨fr, ws, upd_same, hlw, r1⟩
  refine q (.ref p) B1 _ I2 ⟨g1.bsub, fun b o h n => ?_, fun b o h => ?_, fun b o h => ?_, fun b h => ?_⟩ ⟨p, rfl, ow, notRt1, hp⟩
  · have ne := ne_of_none h hp
    rw [upd_ne ne]
    exact g1.keep b o (by rw [upd_ne ne]; exact h) n
  · have ne := ne_of_none h hp
    obtain ⟨o2, h2⟩ := g1.there b o (by rw [upd_ne ne]; exact h)
    exact ⟨o2, by rw [upd_ne ne]; exact h2⟩
  · rcases g1.new b o h with z | z | z
    · exact .inl z
    · by_cases e : b = p
      · rw [e, fr] at h; cases h
      · rw [upd_ne e] at z; exact .inr (.inl z)
    · exact .inr (.inr z)
  · rcases g1.roots b h with z | z
    · exact .inl z
    · by_cases e : b = p
      · exact (notRt1 (e ▸ h)).elim
      · rw [upd_ne e] at z; exact .inr z
/-! ### l.count(k) -/
theorem ev_count {l : List Nat} {k : Nat} {pa cp : Pos} (ho : EvD X e ρ (.fz (eLst eN l)) ρ1) (ha : EvD X a ρ1 (.fz (eN k)) ρ2) (W : ∀ {to : TE} {t : TA}, PE X e to → PA X [a] t → PE X (.Call (.Attribute e "count" pa) [a] [] cp) (tBM X.K "list" (rCntI X.K) to t)) (hs : starEach [a] X.env = (false, eval a X.env) :: starEach [] X.env := by first | exact star_cons rfl | rfl) :
    EvD X (.Call (.Attribute e "count" pa) [a] [] cp) ρ (.fz (eN (l.count k))) ρ2 := .mk fun σ B H Q I q => by
  refine wE.of (W pe_w (pa_cons pe_w pa_nil hs)) (ho σ B H _ I fun v B1 H1 I1 g1 r1 => ?_)
  obtain ⟨a, ws, e1, h1, rl⟩ := r1
  refine ⟨?_, ha σ B1 H1 _ I1 fun u B2 H2 I2 g2 r2 => ?_⟩
  · rw [e1]; exact .inl ⟨rfl, _, .inl (.inl (I1.sub _ _ h1))⟩
  · rw [eN_map] at rl
    have ew := rl.ints
    refine ⟨a, l.map Int.ofNat, k, e1, by rw [show u = V.int k from r2], .inl (.inl ?_), ?_⟩
    · rw [← ew]
      exact I2.sub _ _ (g2.bsub _ _ h1)
    · have ec : (l.map Int.ofNat).count (k : Int) = l.count k := by
        rw [List.count_eq_countP, List.countP_map, List.count_eq_countP]
        refine List.countP_congr fun x _ => ?_
        show ((Int.ofNat x == (k : Int)) = true) ↔ ((x == k) = true)
        simp
        omega
      rw [ec]
      exact q _ B2 H2 I2 (g1.trans g2) rfl
/-! ### list(range(n)) -/
theorem ev_lstRg {x1 : Expr} {p1 p2 : Pos} (hc : X.calm = true) (hg : Gl X "list") (hm : X.mg "list" = none) (hg2 : Gl X "range") (hm2 : X.mg "range" = none) (ha : EvD X x1 ρ (.fz (eN n)) ρ1) (hn : n ≤ 16777216) (na : starEach [x1] X.env = (false, eval x1 X.env) :: starEach [] X.env := by first | exact star_cons rfl | rfl)
    (na2 : starEach [.Call (.Name "range" p1) [x1] [] p2] X.env = (false, eval (.Call (.Name "range" p1) [x1] [] p2) X.env) :: starEach [] X.env := by rfl) : EvD X (.Call (.Name "list" p) [.Call (.Name "range" p1) [x1] [] p2] [] pos) ρ (.ow (eLst eN (List.range n))) ρ1 := .mk fun σ B H Q I q =>
  wE.of (pe_listRg hc hg hm (prg_1 hg2 hm2 pe_w na) na2) (ha σ B H _ I fun v B1 H1 I1 g1 r1 => ⟨n, r1, RgOk.of_le (by omega) (by omega) (by omega) (by omega), fun p hp => by
    have e : rgV 0 (n : Int) = ((List.range n).map Int.ofNat).map V.int := by
      unfold rgV
      rw [List.map_map, show ((n : Int) - 0).toNat = n by omega]
      refine List.map_congr_left fun i _ => ?_
      show V.int _ = V.int _
      rw [Int.zero_add]
      rfl
    have rr : RepL X.K B1 ((List.range n).map eN) (rgV 0 (n : Int)) := by
      rw [e, eN_map]
      exact RepL.of_ints _
    obtain ⟨i1, i2, i3⟩ := fin_op (res := .ow (eLst eN (List.range n))) (u := .ref p) I1 g1 (Grw.own (o := .lst (rgV 0 (n : Int))) I1.sub hp) ⟨p, rfl, ⟨I1.sub.free hp, _, upd_same, rr⟩, hp⟩
    exact q _ _ _ i1 i2 i3⟩)
end
end DL

/-! DL16: statements in typed form: what is wanted, loops as functions, tests that join. -/
namespace DL
open PySem PySem.Spec PyProof.Rows L2

/-! ### how a loop's turn ends -/
inductive Ct (S R : Type) where
  | go (s : S) | bk (s : S) | rt (r : R)
def loopC {S R α : Type} (f : S → α → Ct S R) : List α → S → Ct S R
  | [], s => .go s
  | x :: l, s => match f s x with
    | .go s2 => loopC f l s2
    | .bk s2 => .go s2
    | .rt r => .rt r
def okC {S R α : Type} (ok : S → α → Prop) (f : S → α → Ct S R) : List α → S → Prop
  | [], _ => True
  | x :: l, s => ok s x ∧ ∀ s2, f s x = .go s2 → okC ok f l s2
def okF {S α : Type} (ok : S → α → Prop) (f : S → α → S) : List α → S → Prop
  | [], _ => True
  | x :: l, s => ok s x ∧ okF ok f l (f s x)
def Ct.out {S R : Type} (t : Ct S R) (k : S → R) : R := match t with
  | .go s => k s
  | .bk s => k s
  | .rt r => r
def Ct.then {S S2 R : Type} (t : Ct S R) (k : S → Ct S2 R) : Ct S2 R := match t with
  | .go s => k s
  | .bk s => k s
  | .rt r => .rt r

/-! ### what is wanted -/
/-- of a def: the result r; P of the variables behind it -/
abbrev kF (r : Var) (P : VE → Prop) : KS := { nx := fun ρ => r = .fz .non ∧ P ρ, rt := fun r' ρ => r' = r ∧ P ρ }
/-- of a loop's turn -/
abbrev kB {S R : Type} (t : Ct S R) (E : S → VE) (enc : R → Var) (P : VE → Prop) : KS :=
  { nx := fun ρ => ∃ s, t = .go s ∧ ρ = E s, ct := fun ρ => ∃ s, t = .go s ∧ ρ = E s, bk := fun ρ => ∃ s, t = .bk s ∧ ρ = E s, rt := fun r' ρ => ∃ v, t = .rt v ∧ r' = enc v ∧ P ρ }
/-- of a plain loop's turn: the variables are ρ' -/
abbrev kL (ρ' : VE) : KS := { nx := fun ρ => ρ = ρ', ct := fun ρ => ρ = ρ', rt := fun _ _ => False }
/-- of a branch -/
abbrev kJ (ρ' : VE) : KS := { nx := fun ρ => ρ = ρ', rt := fun _ _ => False }

/-- it does not fall through -/
abbrev noNx (κ : KS) : KS := { κ with nx := fun _ => False }
section
variable {X : Cx} {st : Stmt} {sts rest : List Stmt} {ρ ρ1 ρ2 ρ3 ρj : VE} {κ : KS} {e t : Expr} {d : D} {r : Var} {pos pos' : Pos} {c : Bool} {P : VE → Prop} {α : Type} {S R S2 : Type}
theorem kf_t {enc : α → Var} {a b : α} (hc : c = true) (h : XS X sts ρ (kF (enc a) P)) : XS X sts ρ (kF (enc (if c = true then a else b)) P) := by rw [if_pos hc]; exact h
theorem kf_f {enc : α → Var} {a b : α} (hc : c = false) (h : XS X sts ρ (kF (enc b) P)) : XS X sts ρ (kF (enc (if c = true then a else b)) P) := by rw [if_neg (by rw [hc]; exact Bool.false_ne_true)]; exact h
theorem kb_t {a b : Ct S R} {E : S → VE} {enc : R → Var} (hc : c = true) (h : XS X sts ρ (kB a E enc P)) : XS X sts ρ (kB (if c = true then a else b) E enc P) := by rw [if_pos hc]; exact h
theorem kb_f {a b : Ct S R} {E : S → VE} {enc : R → Var} (hc : c = false) (h : XS X sts ρ (kB b E enc P)) : XS X sts ρ (kB (if c = true then a else b) E enc P) := by rw [if_neg (by rw [hc]; exact Bool.false_ne_true)]; exact h

/-! ### forgetting -/
theorem isOw_un {i j : Nat} (h : isOw ρ[i]? = false) : isOw (ρ.set i .un)[j]? = isOw ρ[j]? := by
  by_cases e : j = i
  · subst e
    rw [h]
    by_cases hl : j < ρ.length
    · rw [List.getElem?_set_self hl]; rfl
    · rw [List.getElem?_eq_none (by simpa using Nat.le_of_not_lt hl)]; rfl
  · rw [List.getElem?_set_ne (Ne.symm e)]
theorem isIo_un {i j : Nat} (h : isOw ρ[i]? = false) : isIo (ρ.set i .un)[j]? = isIo ρ[j]? := by
  by_cases e : j = i
  · subst e
    have h2 : isIo ρ[j]? = false := by
      cases q : ρ[j]? with
      | none => rfl
      | some s => rw [q] at h; cases s <;> first | rfl | cases h
    rw [h2]
    by_cases hl : j < ρ.length
    · rw [List.getElem?_set_self hl]; rfl
    · rw [List.getElem?_eq_none (by simpa using Nat.le_of_not_lt hl)]; rfl
  · rw [List.getElem?_set_ne (Ne.symm e)]
theorem xs_un (i : Nat) (k : XS X sts (ρ.set i .un) κ) (h : isOw ρ[i]? = false := by rfl) : XS X sts ρ κ := .mk fun σ B H D I Sv => by
  have rt : ∀ a, Rt σ (ρ.set i .un) a ↔ Rt σ ρ a := fun a => ⟨fun ⟨j, h1, h2⟩ => ⟨j, by rw [← isOw_un h]; exact h1, h2⟩, fun ⟨j, h1, h2⟩ => ⟨j, by rw [isOw_un h]; exact h1, h2⟩⟩
  have I2 : EnvOk X.K B H σ (ρ.set i .un) := ⟨I.sub, by rw [List.length_set]; exact I.len, fun j s e => by
    by_cases q : j = i
    · subst q
      have hl := lt_of_get e
      rw [List.length_set] at hl
      rw [List.getElem?_set_self hl] at e
      cases e
      trivial
    · rw [List.getElem?_set_ne (Ne.symm q)] at e
      exact I.var j s e, fun j l a hjl h1 h2 => I.sep j l a hjl (by rw [← isOw_un h]; exact h1) (by rw [← isOw_un h]; exact h2)⟩
  exact k σ B H D I2 (Sv.go ⟨⟨Same.refl B, fun _ _ q _ => q, fun _ o q => ⟨o, q⟩, fun _ _ q => .inl q, fun a q => .inl ((rt a).mp q)⟩, fun j q => ⟨by rw [isIo_un h]; exact q, rfl⟩⟩)

/-! ### single statements, what is behind them -/
theorem xs_set (i : Nat) (ρ2 : VE) {x : Str} (h : EvD X e ρ r ρ1) (hN : X.N.Nodup) (hi : X.N[i]? = some x) (hx : Loc X.env.scope x) (k : XS X rest ρ2 κ) (hρ : ρ1.set i r = ρ2 := by rfl) (hl : decide (i < ρ1.length) = true := by rfl) (hio : isIo ρ1[i]? = false := by rfl) (io : IoK ρ ρ1 := by first | exact IoK.refl _ | exact ioK_ok rfl)
    (hs : swapsWith e (some (.Name x pos')) pos.line X.env = pure false := by rfl) (hf : X.fn x = true ∨ X.env.scope.names.lookup x = some .local := by first | exact .inl rfl | exact .inr rfl | assumption) : XS X (.Assign [.Name x pos'] e pos :: rest) ρ κ :=
  xs_cons (x1_set i h hN hi hx (by rw [hρ]; exact k) hl hio io hs hf)
/-- the value behind it is told by a name -/
theorem xs_setG (i : Nat) (enc : α → Var) (V : α) (Pm : α → Prop) (ρ2 : α → VE) (κ2 : α → KS) {x : Str} (h : EvD X e ρ (enc V) ρ1) (hN : X.N.Nodup) (hi : X.N[i]? = some x) (hx : Loc X.env.scope x) (hp : Pm V) (k : ∀ v, Pm v → XS X rest (ρ2 v) (κ2 v)) (hκ : κ = κ2 V := by rfl) (hρ : ρ1.set i (enc V) = ρ2 V := by rfl) (hl : decide (i < ρ1.length) = true := by rfl) (hio : isIo ρ1[i]? = false := by rfl) (io : IoK ρ ρ1 := by first | exact IoK.refl _ | exact ioK_ok rfl)
    (hs : swapsWith e (some (.Name x pos')) pos.line X.env = pure false := by rfl) (hf : X.fn x = true ∨ X.env.scope.names.lookup x = some .local := by first | exact .inl rfl | exact .inr rfl | assumption) : XS X (.Assign [.Name x pos'] e pos :: rest) ρ κ :=
  xs_cons (x1_set i h hN hi hx (by rw [hρ, hκ]; exact k V hp) hl hio io hs hf)
theorem xs_expr (ρ2 : VE) (h : EvD X e ρ r ρ1) (k : XS X rest ρ2 κ) (hρ : ρ1 = ρ2 := by rfl) (io : IoK ρ ρ1 := by first | exact IoK.refl _ | exact ioK_ok rfl) (hs : swapsWith e none pos.line X.env = pure false := by rfl) : XS X (.Expr e pos :: rest) ρ κ :=
  xs_cons (x1_expr h (by rw [hρ]; exact k) io hs)
structure KLe (κ κ' : KS) : Prop where
  nx : ∀ ρ, κ.nx ρ → κ'.nx ρ
  rt : ∀ r ρ, κ.rt r ρ → κ'.rt r ρ
  bk : ∀ ρ, κ.bk ρ → κ'.bk ρ
  ct : ∀ ρ, κ.ct ρ → κ'.ct ρ
theorem XS.mono {κ' : KS} (h : XS X sts ρ κ) (w : KLe κ κ') : XS X sts ρ κ' := .mk fun σ B H D I Sv => h σ B H D I ⟨fun σ' ρ' B' H' k => Sv.nx σ' ρ' B' H' (w.nx _ k), fun σ' ρ' B' H' k => Sv.bk σ' ρ' B' H' (w.bk _ k), fun σ' ρ' B' H' k => Sv.ct σ' ρ' B' H' (w.ct _ k), fun v r σ' ρ' B' H' k => Sv.rt v r σ' ρ' B' H' (w.rt _ _ k)⟩
theorem XG.mono {tg : Expr} {js : List Nat} {P P' : VE → Prop} (h : XG X tg js d ρ P) (w : ∀ ρ, P ρ → P' ρ) : XG X tg js d ρ P' := .mk fun σ B H v Q I r q => h σ B H v Q I r fun σ' ρ' B' H' p => q σ' ρ' B' H' (w _ p)
/-- if c: .. return; the rest -/
theorem xs_ifR {sa : List Stmt} (h : EvT X t ρ c ρ) (h1 : c = true → XS X sa ρ { κ with nx := fun _ => False }) (h2 : c = false → XS X rest ρ κ) : XS X (.If t sa [] pos :: rest) ρ κ :=
  xs_cons (x1_if h (fun z => (h1 z).mono ⟨fun _ q => q.elim, fun _ _ q => q, fun _ q => q, fun _ q => q⟩) fun z => xs_nil (h2 z))
/-- if c: .. else: .., both ends at the same variables -/
theorem xs_ifJ {sa sb : List Stmt} (ρj : VE) (h : EvT X t ρ c ρ) (h1 : c = true → XS X sa ρ (kJ ρj)) (h2 : c = false → XS X sb ρ (kJ ρj)) (k : XS X rest ρj κ) : XS X (.If t sa sb pos :: rest) ρ κ :=
  xs_mid (fun ρ' => ρ' = ρj) (x1_if h (fun z => (h1 z).mono ⟨fun _ q => q, fun _ _ q => q.elim, fun _ q => q.elim, fun _ q => q.elim⟩) fun z => (h2 z).mono ⟨fun _ q => q, fun _ _ q => q.elim, fun _ q => q.elim, fun _ q => q.elim⟩) fun ρ' e => by rw [e]; exact k
/-! ### loops -/
variable {tg iter : Expr} {body : List Stmt} {js : List Nat} {enc : α → D}
theorem xs_forP (l : List α) (enc : α → D) (E : S → VE) (step : S → α → S) (s0 : S) (ok : S → α → Prop) (hi : EvI X tg iter ρ (l.map enc) ρ1) (hok : okF ok step l s0) (hs : ∀ s x, x ∈ l → ok s x → XG X tg js (enc x) (E s) fun ρ2 => XS X body ρ2 (kL (E (step s x)))) (k : XS X rest (E (l.foldl step s0)) κ) (hρ : ρ1 = E s0 := by rfl)
    (hp : PassesOwn (model X.prog X.w) X.A X.env X.xe := by exact PassesOwn.never) (hc : X.calm = true := by rfl) (io : IoK ρ ρ1 := by first | exact IoK.refl _ | exact ioK_ok rfl) (hfs : ∀ x, foldedSetIterable iter X.env x = pure x := by intro _; rfl) : XS X (.For tg iter body [] pos :: rest) ρ κ := by
  refine xs_mid (fun ρ' => ρ' = E (l.foldl step s0)) (x1_for (js := js) hi (fun i ρ' => ρ' = E ((l.take i).foldl step s0) ∧ okF ok step (l.drop i) ((l.take i).foldl step s0)) ⟨by rw [hρ]; rfl, hok⟩ (fun i d ρ' hd q => ?_) (fun ρ' q => ?_) hp hc io hfs) fun ρ' e => by rw [e]; exact k
  · obtain ⟨e, o⟩ := q
    subst e
    rw [List.getElem?_map] at hd
    obtain ⟨x, h1, h2⟩ := Option.map_eq_some_iff.mp hd
    subst h2
    obtain ⟨hl, hx⟩ := List.getElem?_eq_some_iff.mp h1
    have ed : l.drop i = x :: l.drop (i + 1) := by rw [← hx]; exact List.drop_eq_getElem_cons hl
    rw [ed] at o
    have et : l.take (i + 1) = l.take i ++ [x] := by rw [List.take_add_one, h1]; rfl
    refine (hs _ x (List.mem_of_getElem? h1) o.1).mono fun ρ2 h => h.mono ⟨fun ρ3 e => ?_, fun _ _ z => z.elim, fun _ z => z.elim, fun ρ3 e => ?_⟩
    · rw [et, List.foldl_append]
      exact ⟨e, o.2⟩
    · rw [et, List.foldl_append]
      exact ⟨e, o.2⟩
  · rw [q.1, List.length_map, List.take_length]
theorem loopC_cons {f : S → α → Ct S R} {x : α} {l : List α} {s s2 : S} (h : f s x = .go s2) : loopC f (x :: l) s = loopC f l s2 := by
  show (match f s x with | .go s2 => loopC f l s2 | .bk s2 => .go s2 | .rt r => .rt r) = _
  rw [h]
/-- the general for -/
theorem x1_forC (l : List α) (enc : α → D) (E : S → VE) (f : S → α → Ct S R) (s0 : S) (ok : S → α → Prop) (Pr : R → Var → VE → Prop) (hi : EvI X tg iter ρ (l.map enc) ρ1) (hok : okC ok f l s0)
    (hs : ∀ s x, x ∈ l → ok s x → XG X tg js (enc x) (E s) fun ρ2 => XS X body ρ2 { nx := fun ρ => ∃ s2, f s x = .go s2 ∧ ρ = E s2, ct := fun ρ => ∃ s2, f s x = .go s2 ∧ ρ = E s2, bk := fun ρ => ∃ s2, f s x = .bk s2 ∧ ρ = E s2, rt := fun r ρ => ∃ v, f s x = .rt v ∧ Pr v r ρ })
    (hn : ∀ s, loopC f l s0 = .go s → κ.nx (E s)) (hr : ∀ v r ρ, loopC f l s0 = .rt v → Pr v r ρ → κ.rt r ρ) (hρ : ρ1 = E s0 := by rfl)
    (hp : PassesOwn (model X.prog X.w) X.A X.env X.xe := by exact PassesOwn.never) (hc : X.calm = true := by rfl) (io : IoK ρ ρ1 := by first | exact IoK.refl _ | exact ioK_ok rfl) (hfs : ∀ x, foldedSetIterable iter X.env x = pure x := by intro _; rfl) : X1 X (.For tg iter body [] pos) ρ κ := by
  refine x1_for (js := js) hi (fun i ρ' => ∃ s, ρ' = E s ∧ okC ok f (l.drop i) s ∧ loopC f (l.drop i) s = loopC f l s0) ⟨s0, hρ, hok, rfl⟩ (fun i d ρ' hd q => ?_) (fun ρ' q => ?_) hp hc io hfs
  · obtain ⟨s, e, o, lp⟩ := q
    subst e
    rw [List.getElem?_map] at hd
    obtain ⟨x, h1, h2⟩ := Option.map_eq_some_iff.mp hd
    subst h2
    obtain ⟨hl, hx⟩ := List.getElem?_eq_some_iff.mp h1
    have ed : l.drop i = x :: l.drop (i + 1) := by rw [← hx]; exact List.drop_eq_getElem_cons hl
    rw [ed] at o lp
    have lp' : (match f s x with | .go s2 => loopC f (l.drop (i + 1)) s2 | .bk s2 => .go s2 | .rt r => .rt r) = loopC f l s0 := lp
    refine (hs s x (List.mem_of_getElem? h1) o.1).mono fun ρ2 h => h.mono ⟨fun ρ3 z => ?_, fun r ρ3 z => ?_, fun ρ3 z => ?_, fun ρ3 z => ?_⟩
    · obtain ⟨s2, e1, e2⟩ := z
      exact ⟨s2, e2, o.2 s2 e1, by rw [e1] at lp'; exact lp'⟩
    · obtain ⟨v, e1, e2⟩ := z
      exact hr v r ρ3 (by rw [e1] at lp'; exact lp'.symm) e2
    · obtain ⟨s2, e1, e2⟩ := z
      rw [e2]
      exact hn s2 (by rw [e1] at lp'; exact lp'.symm)
    · obtain ⟨s2, e1, e2⟩ := z
      exact ⟨s2, e2, o.2 s2 e1, by rw [e1] at lp'; exact lp'⟩
  · obtain ⟨s, e, _, lp⟩ := q
    rw [List.length_map, List.drop_length] at lp
    rw [e]
    exact hn s lp.symm
/-- in a def: a loop that may return, then the rest -/
theorem xs_forF (l : List α) (enc : α → D) (E : S → VE) (f : S → α → Ct S R) (s0 : S) (ok : S → α → Prop) (encR : R → Var) (k : S → R) (hi : EvI X tg iter ρ (l.map enc) ρ1) (hok : okC ok f l s0) (hs : ∀ s x, x ∈ l → ok s x → XG X tg js (enc x) (E s) fun ρ2 => XS X body ρ2 (kB (f s x) E encR P))
    (hk : ∀ s, loopC f l s0 = .go s → XS X rest (E s) (kF (encR (k s)) P)) (hρ : ρ1 = E s0 := by rfl)
    (hp : PassesOwn (model X.prog X.w) X.A X.env X.xe := by exact PassesOwn.never) (hc : X.calm = true := by rfl) (io : IoK ρ ρ1 := by first | exact IoK.refl _ | exact ioK_ok rfl) (hfs : ∀ x, foldedSetIterable iter X.env x = pure x := by intro _; rfl) : XS X (.For tg iter body [] pos :: rest) ρ (kF (encR ((loopC f l s0).out k)) P) :=
  xs_cons (x1_forC l enc E f s0 ok (fun v r ρ => r = encR v ∧ P ρ) hi hok hs (fun s e => by rw [e]; exact hk s e) (fun v r ρ e q => by rw [e]; exact q) hρ hp hc io hfs)
/-- within a loop's turn -/
theorem xs_forB (l : List α) (enc : α → D) (E : S → VE) (f : S → α → Ct S R) (s0 : S) (ok : S → α → Prop) (E2 : S2 → VE) (encR : R → Var) (k : S → Ct S2 R) (hi : EvI X tg iter ρ (l.map enc) ρ1) (hok : okC ok f l s0) (hs : ∀ s x, x ∈ l → ok s x → XG X tg js (enc x) (E s) fun ρ2 => XS X body ρ2 (kB (f s x) E encR P))
    (hk : ∀ s, loopC f l s0 = .go s → XS X rest (E s) (kB (k s) E2 encR P)) (hρ : ρ1 = E s0 := by rfl)
    (hp : PassesOwn (model X.prog X.w) X.A X.env X.xe := by exact PassesOwn.never) (hc : X.calm = true := by rfl) (io : IoK ρ ρ1 := by first | exact IoK.refl _ | exact ioK_ok rfl) (hfs : ∀ x, foldedSetIterable iter X.env x = pure x := by intro _; rfl) : XS X (.For tg iter body [] pos :: rest) ρ (kB ((loopC f l s0).then k) E2 encR P) :=
  xs_cons (x1_forC l enc E f s0 ok (fun v r ρ => r = encR v ∧ P ρ) hi hok hs (fun s e => by rw [e]; exact hk s e) (fun v r ρ e q => ⟨v, by rw [e]; rfl, q⟩) hρ hp hc io hfs)

/-! ### comprehensions -/
variable {elt : Expr} {ifs : List Expr} {scope : Scope} {own : List (Str × Nat)} {β : Type}
theorem ev_lcF (l : List α) (enc : α → D) (encB : β → D) (E : α → VE) (q : α → Bool) (f : α → β) (hc : X.calm = true) (hN : X.N.Nodup) (hi : EvI X tg iter ρ (l.map enc) ρ1) (ok : BlkOk X.N X.env.scope scope own) (hjs : ∀ j, j ∈ js → j ∈ own.map (·.2))
    (hm : ∀ x ∈ l, mergeV ρ1 (E x) (own.map (·.2)) = ρ1) (hG : ∀ x ∈ l, InB X scope fun Y => XG Y tg js (enc x) (wipeV ρ1 (own.map (·.2))) (· = E x)) (hT : ∀ x ∈ l, InB X scope fun Y => EvTs Y ifs (E x) (q x) (E x)) (hE : ∀ x ∈ l, q x = true → InB X scope fun Y => EvD Y elt (E x) (.fz (encB (f x))) (E x))
    (hz : l.length < sizeLine) (hfs : ∀ x, foldedSetIterable iter X.env x = pure x := by intro _; rfl) : EvD X (.ListComp elt [⟨tg, iter, ifs, 0⟩] scope pos) ρ (.ow (eLst encB ((l.filter q).map f))) ρ1 :=
  ev_as (ev_lcP l enc E q (fun x => encB (f x)) hc hN hi ok hjs hm hG hT hE hz hfs) (by show Var.ow (.lst _) = Var.ow (.lst _); rw [List.map_map]; rfl)
theorem ev_lcM (l : List α) (enc : α → D) (encB : β → D) (E : α → VE) (f : α → β) (hc : X.calm = true) (hN : X.N.Nodup) (hi : EvI X tg iter ρ (l.map enc) ρ1) (ok : BlkOk X.N X.env.scope scope own) (hjs : ∀ j, j ∈ js → j ∈ own.map (·.2))
    (hm : ∀ x ∈ l, mergeV ρ1 (E x) (own.map (·.2)) = ρ1) (hG : ∀ x ∈ l, InB X scope fun Y => XG Y tg js (enc x) (wipeV ρ1 (own.map (·.2))) (· = E x)) (hE : ∀ x ∈ l, InB X scope fun Y => EvD Y elt (E x) (.fz (encB (f x))) (E x))
    (hz : l.length < sizeLine) (hfs : ∀ x, foldedSetIterable iter X.env x = pure x := by intro _; rfl) : EvD X (.ListComp elt [⟨tg, iter, [], 0⟩] scope pos) ρ (.ow (eLst encB (l.map f))) ρ1 :=
  ev_as (ev_lcF l enc encB E (fun _ => true) f hc hN hi ok hjs hm hG (fun _ _ _ _ _ _ _ => ets_nil) (fun x h _ => hE x h) hz hfs) (by rw [List.filter_eq_self.mpr (fun _ _ => rfl)])
/-! ### comprehensions whose turns change things -/
def lcS (q : S → α → Bool) (s1 : S → α → S) (f : S → α → β) (s2 : S → α → S) : List α → S → List β × S
  | [], s => ([], s)
  | x :: l, s => if q s x = true then ((f s x :: (lcS q s1 f s2 l (s2 s x)).1), (lcS q s1 f s2 l (s2 s x)).2) else lcS q s1 f s2 l (s1 s x)
def okS (ok : S → α → Prop) (q : S → α → Bool) (s1 : S → α → S) (s2 : S → α → S) : List α → S → Prop
  | [], _ => True
  | x :: l, s => ok s x ∧ okS ok q s1 s2 l (if q s x = true then s2 s x else s1 s x)
theorem lcS_len (q : S → α → Bool) (s1 : S → α → S) (f : S → α → β) (s2 : S → α → S) : ∀ (l : List α) (s : S), (lcS q s1 f s2 l s).1.length ≤ l.length
  | [], _ => Nat.le_refl _
  | x :: l, s => by
    unfold lcS
    by_cases h : q s x = true
    · rw [if_pos h]
      have := lcS_len q s1 f s2 l (s2 s x)
      simp only [List.length_cons]
      omega
    · rw [if_neg h]
      have := lcS_len q s1 f s2 l (s1 s x)
      simp only [List.length_cons]
      omega
/-- O: the variables outside the block, E: within it (behind the target's store), E1: behind the test, E2: behind the item -/
theorem ev_lcS (l : List α) (enc : α → D) (encB : β → D) (O : S → VE) (E E1 E2 : S → α → VE) (q : S → α → Bool) (s1 : S → α → S) (f : S → α → β) (s2 : S → α → S) (s0 : S) (okk : S → α → Prop) (hc : X.calm = true) (hN : X.N.Nodup) (hi : EvI X tg iter ρ (l.map enc) ρ1) (ok : BlkOk X.N X.env.scope scope own) (hjs : ∀ j, j ∈ js → j ∈ own.map (·.2)) (hok : okS okk q s1 s2 l s0)
    (hm1 : ∀ s x, q s x = false → mergeV (O s) (E1 s x) (own.map (·.2)) = O (s1 s x)) (hm2 : ∀ s x, q s x = true → mergeV (O s) (E2 s x) (own.map (·.2)) = O (s2 s x)) (hG : ∀ s, ∀ x ∈ l, InB X scope fun Y => XG Y tg js (enc x) (wipeV (O s) (own.map (·.2))) (· = E s x))
    (hT : ∀ s, ∀ x ∈ l, okk s x → InB X scope fun Y => EvTs Y ifs (E s x) (q s x) (E1 s x)) (hE : ∀ s, ∀ x ∈ l, okk s x → q s x = true → InB X scope fun Y => EvD Y elt (E1 s x) (.fz (encB (f s x))) (E2 s x))
    (hz : l.length < sizeLine) (hρ : ρ1 = O s0 := by rfl) (hfs : ∀ x, foldedSetIterable iter X.env x = pure x := by intro _; rfl) : EvD X (.ListComp elt [⟨tg, iter, ifs, 0⟩] scope pos) ρ (.ow (eLst encB (lcS q s1 f s2 l s0).1)) (O (lcS q s1 f s2 l s0).2) := by
  refine ev_lc (ds := l.map enc) (df := (lcS q s1 f s2 l s0).1.map encB) hc hN hi ok (fun i ρ' out => ∃ s pre, ρ' = O s ∧ out = pre.map encB ∧ pre.length ≤ i ∧ okS okk q s1 s2 (l.drop i) s ∧ (pre ++ (lcS q s1 f s2 (l.drop i) s).1, (lcS q s1 f s2 (l.drop i) s).2) = lcS q s1 f s2 l s0) ⟨s0, [], hρ, rfl, Nat.le_refl _, hok, rfl⟩ hjs (fun i d ρ' out hd k => ?_) (fun ρ' out k => ?_) (by rw [List.length_map]; exact hz) (fun i ρ' out k => ?_) hfs
  · obtain ⟨s, pre, e1, e2, hl, o, lp⟩ := k
    subst e1 e2
    rw [List.getElem?_map] at hd
    obtain ⟨x, h1, h2⟩ := Option.map_eq_some_iff.mp hd
    subst h2
    obtain ⟨hlt, hx⟩ := List.getElem?_eq_some_iff.mp h1
    have hmem := List.mem_of_getElem? h1
    have ed : l.drop i = x :: l.drop (i + 1) := by rw [← hx]; exact List.drop_eq_getElem_cons hlt
    rw [ed] at o lp
    refine ⟨E s x, q s x, E1 s x, hG s x hmem, hT s x hmem o.1, fun h => ⟨encB (f s x), E2 s x, hE s x hmem o.1 h, ?_⟩, fun h => ?_⟩
    · have o2 := o.2
      rw [if_pos h] at o2
      refine ⟨s2 s x, pre ++ [f s x], hm2 s x h, by rw [List.map_append]; rfl, by simp; omega, o2, ?_⟩
      rw [← lp]
      show _ = (pre ++ (lcS q s1 f s2 (x :: l.drop (i + 1)) s).1, (lcS q s1 f s2 (x :: l.drop (i + 1)) s).2)
      unfold lcS
      rw [if_pos h]
      simp only [List.append_assoc, List.singleton_append]
      cases l.drop (i + 1) <;> simp [lcS]
    · have o2 := o.2
      rw [if_neg (by rw [h]; exact Bool.false_ne_true)] at o2
      refine ⟨s1 s x, pre, hm1 s x h, rfl, by omega, o2, ?_⟩
      rw [← lp]
      have e : lcS q s1 f s2 (x :: l.drop (i + 1)) s = lcS q s1 f s2 (l.drop (i + 1)) (s1 s x) := by
        show (if q s x = true then _ else _) = _
        rw [if_neg (by rw [h]; exact Bool.false_ne_true)]
      rw [e]
  · obtain ⟨s, pre, e1, e2, _, _, lp⟩ := k
    rw [List.length_map, List.drop_length] at lp
    have lp' : (pre ++ [], s) = lcS q s1 f s2 l s0 := lp
    rw [← lp', e1, e2, List.append_nil]
    exact ⟨rfl, rfl⟩
  · obtain ⟨s, pre, e1, e2, hl, _⟩ := k
    rw [e2, List.length_map]
    exact hl
/-! ### by cases of a test -/
theorem XS.ift {V : Type} (Wp : V → KS) {a b : V} (hc : c = true) (h : XS X sts ρ (Wp a)) : XS X sts ρ (Wp (if c = true then a else b)) := by rw [if_pos hc]; exact h
theorem XS.iff {V : Type} (Wp : V → KS) {a b : V} (hc : c = false) (h : XS X sts ρ (Wp b)) : XS X sts ρ (Wp (if c = true then a else b)) := by rw [if_neg (by rw [hc]; exact Bool.false_ne_true)]; exact h
theorem xs_ifN {sa : List Stmt} (h : EvT X t ρ c ρ) (h1 : c = true → XS X sa ρ (noNx κ)) (h2 : c = false → XS X rest ρ κ) : XS X (.If t sa [] pos :: rest) ρ κ := xs_ifR h h1 h2
theorem xs_ifE {sa sb : List Stmt} (h : EvT X t ρ c ρ) (h1 : c = true → XS X sa ρ κ) (h2 : c = false → XS X sb ρ κ) : XS X [.If t sa sb pos] ρ κ := xs_one (x1_if h h1 h2)
theorem ev_ifT {a b : Expr} {enc : α → Var} {va vb : α} (h : EvT X t ρ c ρ) (h1 : c = true → EvD X a ρ (enc va) ρ) (h2 : c = false → EvD X b ρ (enc vb) ρ) : EvD X (.IfExp t a b pos) ρ (enc (if c = true then va else vb)) ρ :=
  ev_if h (fun z => ev_as (h1 z) (by rw [if_pos z])) fun z => ev_as (h2 z) (by rw [if_neg (by rw [z]; exact Bool.false_ne_true)])
/-- name = [..], frozen at once, its value told by a name -/
theorem xs_setLcG {β : Type} (v : Nat) {nm : Str} {py lpos : Pos} (l : List α) (enc : α → D) (encB : β → D) (E : α → VE) (q : α → Bool) (f : α → β) (Pm : List β → Prop) (ρ2 : List β → VE) (κ2 : List β → KS) (hc : X.calm = true) (hN : X.N.Nodup) (hy : X.N[v]? = some nm) (hyl : X.env.scope.names.lookup nm = some .local)
    (hi : EvI X tg iter ρ (l.map enc) ρ1) (ok : BlkOk X.N X.env.scope scope own) (hjs : ∀ j, j ∈ js → j ∈ own.map (·.2))
    (hm : ∀ x ∈ l, mergeV ρ1 (E x) (own.map (·.2)) = ρ1) (hG : ∀ x ∈ l, InB X scope fun Y => XG Y tg js (enc x) (wipeV ρ1 (own.map (·.2))) (· = E x)) (hT : ∀ x ∈ l, InB X scope fun Y => EvTs Y ifs (E x) (q x) (E x)) (hE : ∀ x ∈ l, q x = true → InB X scope fun Y => EvD Y elt (E x) (.fz (encB (f x))) (E x))
    (hz : l.length < sizeLine) (hp : Pm ((l.filter q).map f)) (k : ∀ w, Pm w → XS X rest (ρ2 w) (κ2 w)) (hκ : κ = κ2 ((l.filter q).map f) := by rfl) (hρ : ρ1.set v (.fz (eLst encB ((l.filter q).map f))) = ρ2 ((l.filter q).map f) := by rfl)
    (hsw : swapsWith (.ListComp elt [⟨tg, iter, ifs, 0⟩] scope lpos) (some (.Name nm py)) pos.line X.env = pure true := by rfl) (hl : decide (v < ρ1.length) = true := by rfl) (hio : isIo ρ1[v]? = false := by rfl) (io : IoK ρ ρ1 := by first | exact IoK.refl _ | exact ioK_ok rfl) (hfs : ∀ x, foldedSetIterable iter X.env x = pure x := by intro _; rfl) :
    XS X (.Assign [.Name nm py] (.ListComp elt [⟨tg, iter, ifs, 0⟩] scope lpos) pos :: rest) ρ κ :=
  xs_cons (x1_setLcP v l enc E q (fun x => encB (f x)) hc hN hy hyl hsw hi ok hjs hm hG hT hE hz (by
    refine xs_frz v (d := eLst encB ((l.filter q).map f)) ?_ ?_
    · rw [List.getElem?_set_self (of_decide_eq_true hl)]
      show some (Var.ow (.lst _)) = some (Var.ow (.lst _))
      rw [List.map_map]
      rfl
    · rw [List.set_set, hρ, hκ]
      exact k _ hp) hl hio io hfs)
end
end DL

/-! DL17: what the printed derivations lean on. -/
namespace DL
open PySem PySem.Spec PyProof.Rows L2 PySem.W

theorem one_le_shl (n : Nat) : 1 ≤ 1 <<< n := by
  rw [Nat.one_shiftLeft]
  exact Nat.one_le_two_pow
def eO {α : Type} (enc : α → D) : Option α → D
  | none => .non
  | some x => enc x
abbrev eP3 {α β γ : Type} (e1 : α → D) (e2 : β → D) (e3 : γ → D) (x : α × β × γ) : D := .tup [e1 x.1, e2 x.2.1, e3 x.2.2]
theorem okF_triv {S α : Type} (f : S → α → S) : ∀ (l : List α) (s : S), okF (fun _ _ => True) f l s
  | [], _ => trivial
  | _ :: l, _ => ⟨trivial, okF_triv f l _⟩
theorem okC_triv {S R α : Type} (f : S → α → Ct S R) : ∀ (l : List α) (s : S), okC (fun _ _ => True) f l s
  | [], _ => trivial
  | _ :: l, _ => ⟨trivial, fun _ _ => okC_triv f l _⟩
section
variable {X : Cx} {st : Stmt} {sts rest body : List Stmt} {ρ ρ1 ρ2 ρ3 : VE} {κ : KS} {e a b t tg iter elt : Expr} {d x y : D} {r : Var} {pos p p2 : Pos} {c : Bool} {α β S : Type} {i j n m : Nat} {js : List Nat} {enc : α → D} {scope : Scope} {own : List (Str × Nat)}
theorem Dat.lst [DecidableEq α] {lt : α → α → Bool} (h : Dat enc lt n) (l m : List α) : PyData.eqv (eLst enc l).py (eLst enc m).py = decide (l = m) := by
  show PyData.eqv (.list _) (.list _) = _
  simp only [PyData.eqv]
  exact h.eqL l m
/-! ### lists, tuples -/
theorem ev_catL {l m : List α} (ha : EvD X a ρ (.fz (eLst enc l)) ρ1) (hb : EvD X b ρ1 (.fz (eLst enc m)) ρ2) (hz : l.length + m.length ≤ 1000000) : EvD X (.BinOp a .Add b pos) ρ (.ow (eLst enc (l ++ m))) ρ2 :=
  ev_as (ev_cat ha hb (by rw [List.length_map, List.length_map]; exact Nat.le_trans hz (by decide))) (by rw [eLst, List.map_append])
theorem ev_catTT {l m : List α} (ha : EvD X a ρ (.fz (eTup enc l)) ρ1) (hb : EvD X b ρ1 (.fz (eTup enc m)) ρ2) (hz : l.length + m.length ≤ 1000000) : EvD X (.BinOp a .Add b pos) ρ (.fz (eTup enc (l ++ m))) ρ2 :=
  ev_as (ev_catT ha hb (by rw [List.length_map, List.length_map]; exact Nat.le_trans hz (by decide))) (by rw [eTup, List.map_append])
theorem ev_rep1 {z : α} (ha : EvD X a ρ (.fz (eLst enc [z])) ρ1) (hb : EvD X b ρ1 (.fz (eN n)) ρ2) (hz : n ≤ 1000000) : EvD X (.BinOp a .Mult b pos) ρ (.ow (eLst enc (List.replicate n z))) ρ2 :=
  ev_as (ev_rep ha hb (by omega) (by rw [Int.toNat_natCast, List.length_map]; exact Nat.le_trans (by simpa using hz) (by decide : 1000000 ≤ sizeLine))) (by
    rw [Int.toNat_natCast]
    have e : ∀ q : Nat, (List.replicate q ([z].map enc)).flatten = (List.replicate q z).map enc := fun q => by
      rw [List.map_replicate]
      induction q with
      | zero => rfl
      | succ q ih =>
        rw [List.replicate_succ, List.flatten_cons, ih]
        rfl
    rw [e])
theorem memN (k : Nat) (l : List Nat) : decide ((k : Int) ∈ l.map Int.ofNat) = decide (k ∈ l) := by
  have : ((k : Int) ∈ l.map Int.ofNat) ↔ k ∈ l := by
    rw [List.mem_map]
    constructor
    · rintro ⟨z, h1, h2⟩
      have : z = k := by
        have h3 : (z : Int) = (k : Int) := h2
        omega
      rw [← this]
      exact h1
    · exact fun h => ⟨k, h, rfl⟩
  by_cases h : k ∈ l
  · rw [decide_eq_true h, decide_eq_true (this.mpr h)]
  · rw [decide_eq_false h, decide_eq_false fun z => h (this.mp z)]
theorem cp_inTN {l : List Nat} (ha : EvD X a ρ (.fz (eN i)) ρ1) (hb : EvD X b ρ1 (.fz (eTup eN l)) ρ2) : CpD X .In a b ρ (.fz (.bl (decide (i ∈ l)))) ρ2 := by
  have := cp_inT ha (l := l.map Int.ofNat) (by rw [← eN_map]; exact hb)
  rw [memN] at this
  exact this
theorem cp_niTN {l : List Nat} (ha : EvD X a ρ (.fz (eN i)) ρ1) (hb : EvD X b ρ1 (.fz (eTup eN l)) ρ2) : CpD X .NotIn a b ρ (.fz (.bl (!decide (i ∈ l)))) ρ2 := by
  have := cp_niT ha (l := l.map Int.ofNat) (by rw [← eN_map]; exact hb)
  rw [memN] at this
  exact this
theorem cp_inLN {l : List Nat} (ha : EvD X a ρ (.fz (eN i)) ρ1) (hb : EvD X b ρ1 (.fz (eLst eN l)) ρ2) : CpD X .In a b ρ (.fz (.bl (decide (i ∈ l)))) ρ2 := by
  have := cp_inL ha (l := l.map Int.ofNat) (by rw [← eN_map]; exact hb)
  rw [memN] at this
  exact this
theorem cp_niLN {l : List Nat} (ha : EvD X a ρ (.fz (eN i)) ρ1) (hb : EvD X b ρ1 (.fz (eLst eN l)) ρ2) : CpD X .NotIn a b ρ (.fz (.bl (!decide (i ∈ l)))) ρ2 := by
  have := cp_niL ha (l := l.map Int.ofNat) (by rw [← eN_map]; exact hb)
  rw [memN] at this
  exact this
theorem cp_isO {o : Option α} (h : ∀ v, isNon (enc v) = false) (ha : EvD X a ρ (.fz (eO enc o)) ρ1) {j' pos'} : CpD X .Is a (.Constant .none j' pos') ρ (.fz (.bl o.isNone)) ρ1 := cp_as (cp_isN ha) (by cases o with | none => rfl | some v => show Var.fz (.bl (isNon (enc v))) = _; rw [h]; rfl)
theorem cp_isnO {o : Option α} (h : ∀ v, isNon (enc v) = false) (ha : EvD X a ρ (.fz (eO enc o)) ρ1) {j' pos'} : CpD X .IsNot a (.Constant .none j' pos') ρ (.fz (.bl o.isSome)) ρ1 := cp_as (cp_isnN ha) (by cases o with | none => rfl | some v => show Var.fz (.bl (!isNon (enc v))) = _; rw [h]; rfl)
/-! ### statements, what is behind them -/
theorem xs_item {w : Bool} {l : List α} {z : α} {nm : Str} {px sp : Pos} {ix : Expr} (ρ2 : VE) (h : EvD X e ρ (.fz (enc z)) ρ1) (hi : ρ1[i]? = some (Var.own w (eLst enc l))) (hN : X.N[i]? = some nm) (hx : EvD X ix ρ1 (.fz (eN j)) ρ1) (hρ : ρ1.set i (Var.own w (eLst enc (l.set j z))) = ρ2) (hk : j < l.length) (k : XS X rest ρ2 κ) (io : IoK ρ ρ1 := by first | exact IoK.refl _ | exact ioK_ok rfl) (hv : Vis X.env.scope nm := by first | exact Or.inl rfl | exact Or.inr (Or.inl rfl) | exact Or.inr (Or.inr rfl))
    (hd : (nm == ("__debug__" : Str)) = false := by decide) (hcd : (nm == ("__classdict__" : Str)) = false := by decide)
    (hs : swapsWithSole [.Subscript (.Name nm px) ix sp] e pos.line X.env = pure false := by rfl) (hw : swappedStores [.Subscript (.Name nm px) ix sp] e X.env = pure none := by rfl)
    (h1 : (assignEach [.Subscript (.Name nm px) ix sp] X.env).map (·.2) = [assign (.Subscript (.Name nm px) ix sp) X.env] := by rfl)
    (ha : ∀ v, assign (.Subscript (.Name nm px) ix sp) X.env v = (do
      let ov ← holding [v] (eval (.Name nm px) X.env)
      let iv ← holding [v, ov] (eval ix X.env)
      standAt sp
      holding [v, ov, iv] (setItem ov iv v)
      release [v, ov, iv] []) := by intro _; rfl) : XS X (.Assign [.Subscript (.Name nm px) ix sp] e pos :: rest) ρ κ := by
  have hk2 : ixN (l.map enc).length (j : Int) = some j := by
    unfold ixN
    have h2 : (j : Int) < ((l.map enc).length : Int) := by rw [List.length_map]; omega
    rw [if_pos (by omega), if_pos h2]
    rfl
  refine xs_cons (x1_setItem (w := w) (l := l.map enc) (k := j) (j := j) hN h hi hx hk2 ?_ io hv hd hcd hs hw h1 ha)
  have e : Var.own w (D.lst ((l.map enc).set j (enc z))) = Var.own w (eLst enc (l.set j z)) := by rw [eLst, List.map_set]
  rw [e, hρ]
  exact k
theorem xs_app {w : Bool} {l l1 : List α} {z : α} {nm : Str} {px apos cpos : Pos} (ρ2 : VE) (hi0 : ρ[i]? = some (Var.own w (eLst enc l1))) (hN : X.N[i]? = some nm) (h : EvD X e ρ (.fz (enc z)) ρ1) (hi : ρ1[i]? = some (Var.own w (eLst enc l))) (hz : l.length ≤ 1000000) (k : XS X rest ρ2 κ) (hρ : ρ1.set i (Var.own w (eLst enc (l ++ [z]))) = ρ2 := by rfl) (io : IoK ρ ρ1 := by first | exact IoK.refl _ | exact ioK_ok rfl)
    (io2 : IoK ρ ρ2 := by exact ioK_ok rfl)
    (W : ∀ {to : TE} {t : TA}, PE X (.Name nm px) to → PA X [e] t → PE X (.Call (.Attribute (.Name nm px) "append" apos) [e] [] cpos) (tBM X.K "list" rAppend to t) := by exact fun h1 h2 => pe_bm PySem.F.plainAttrs_list PySem.F.slot_list_append PySem.F.type_list_append mt_append h1 h2)
    (hv : Vis X.env.scope nm := by first | exact Or.inl rfl | exact Or.inr (Or.inl rfl) | exact Or.inr (Or.inr rfl)) (hd : (nm == ("__debug__" : Str)) = false := by decide) (hcd : (nm == ("__classdict__" : Str)) = false := by decide) (hs : starEach [e] X.env = (false, eval e X.env) :: starEach [] X.env := by first | exact star_cons rfl | rfl)
    (hsw : swapsWith (.Call (.Attribute (.Name nm px) "append" apos) [e] [] cpos) none pos.line X.env = pure false := by rfl) : XS X (.Expr (.Call (.Attribute (.Name nm px) "append" apos) [e] [] cpos) pos :: rest) ρ κ :=
  xs_cons (x1_expr (ev_app (w := w) hi0 hN h hi (by rw [List.length_map]; exact Nat.lt_of_le_of_lt hz (by decide)) W hv hd hcd hs) (by
    have e2 : Var.own w (D.lst (l.map enc ++ [enc z])) = Var.own w (eLst enc (l ++ [z])) := by rw [eLst, List.map_append]; rfl
    rw [e2, hρ]
    exact k) (by
    have e2 : Var.own w (D.lst (l.map enc ++ [enc z])) = Var.own w (eLst enc (l ++ [z])) := by rw [eLst, List.map_append]; rfl
    rw [e2, hρ]
    exact io2) hsw)
theorem xs_par (i j : Nat) (ρ2 : VE) {x y : Str} {px py pt : Pos} {kt k2 : Nat} {pt2 : Pos} {d1 d2 : D} (ha : EvA X [a, b] ρ [d1, d2] ρ1) (hc : X.calm = true) (hN : X.N.Nodup) (hi : X.N[i]? = some x) (hj : X.N[j]? = some y) (hij : i ≠ j) (hx : X.env.scope.names.lookup x = some .local) (hy : X.env.scope.names.lookup y = some .local)
    (k : XS X rest ρ2 κ) (hρ : (ρ1.set i (.fz d1)).set j (.fz d2) = ρ2 := by rfl) (hw : swappedStores [.Tuple [.Name x px, .Name y py] kt pt] (.Tuple [a, b] k2 pt2) X.env = pure (some [x, y]) := by rfl) (hs : swapsWithSole [.Tuple [.Name x px, .Name y py] kt pt] (.Tuple [a, b] k2 pt2) pos.line X.env = pure false := by rfl)
    (hl : decide (i < ρ1.length ∧ j < ρ1.length) = true := by rfl) (hio : isIo ρ1[i]? = false := by rfl) (hio2 : isIo (ρ1.set i (.fz d1))[j]? = false := by rfl) (io : IoK ρ ρ1 := by first | exact IoK.refl _ | exact ioK_ok rfl) : XS X (.Assign [.Tuple [.Name x px, .Name y py] kt pt] (.Tuple [a, b] k2 pt2) pos :: rest) ρ κ :=
  xs_cons (x1_par i j ha hc hN hi hj hij hx hy (by rw [hρ]; exact k) hw hs hl hio hio2 io)
theorem xs_par3 (i j l : Nat) (ρ2 : VE) {c : Expr} {x y z : Str} {px py pz pt : Pos} {kt k2 : Nat} {pt2 : Pos} {d1 d2 d3 : D} (ha : EvA X [a, b, c] ρ [d1, d2, d3] ρ1) (hc : X.calm = true) (hN : X.N.Nodup) (hi : X.N[i]? = some x) (hj : X.N[j]? = some y) (hk : X.N[l]? = some z) (hij : i ≠ j ∧ i ≠ l ∧ j ≠ l)
    (hx : X.env.scope.names.lookup x = some .local) (hy : X.env.scope.names.lookup y = some .local) (hz : X.env.scope.names.lookup z = some .local) (k : XS X rest ρ2 κ) (hρ : ((ρ1.set i (.fz d1)).set j (.fz d2)).set l (.fz d3) = ρ2 := by rfl)
    (hw : swappedStores [.Tuple [.Name x px, .Name y py, .Name z pz] kt pt] (.Tuple [a, b, c] k2 pt2) X.env = pure (some [x, y, z]) := by rfl) (hs : swapsWithSole [.Tuple [.Name x px, .Name y py, .Name z pz] kt pt] (.Tuple [a, b, c] k2 pt2) pos.line X.env = pure false := by rfl)
    (hl : decide (i < ρ1.length ∧ j < ρ1.length ∧ l < ρ1.length) = true := by rfl) (hio : isIo ρ1[i]? = false := by rfl) (hio2 : isIo (ρ1.set i (.fz d1))[j]? = false := by rfl) (hio3 : isIo ((ρ1.set i (.fz d1)).set j (.fz d2))[l]? = false := by rfl) (io : IoK ρ ρ1 := by first | exact IoK.refl _ | exact ioK_ok rfl) :
    XS X (.Assign [.Tuple [.Name x px, .Name y py, .Name z pz] kt pt] (.Tuple [a, b, c] k2 pt2) pos :: rest) ρ κ := xs_cons (x1_par3 i j l ha hc hN hi hj hk hij hx hy hz (by rw [hρ]; exact k) hw hs hl hio hio2 hio3 io)
theorem xs_unp (ρ2 : VE) (h : EvD X e ρ (.fz d) ρ1) (hg : XG X tg js d ρ1 (· = ρ2)) (k : XS X rest ρ2 κ) (io : IoK ρ ρ1 := by first | exact IoK.refl _ | exact ioK_ok rfl) (hs : swapsWithSole [tg] e pos.line X.env = pure false := by rfl) (hw : swappedStores [tg] e X.env = pure none := by rfl)
    (h1 : (assignEach [tg] X.env).map (·.2) = [assign tg X.env] := by rfl) : XS X (.Assign [tg] e pos :: rest) ρ κ := xs_cons (x1_unpack h (hg.mono fun ρ e => by rw [e]; exact k) io hs hw h1)
/-- both branches end at the same variables; their value is told by a name -/
theorem xs_ifJG {V : Type} {sa sb : List Stmt} {va vb : V} (EJ : V → VE) (Pm : V → Prop) (κ2 : V → KS) (h : EvT X t ρ c ρ) (h1 : c = true → XS X sa ρ (kJ (EJ va))) (h2 : c = false → XS X sb ρ (kJ (EJ vb))) (hp : Pm (if c = true then va else vb)) (k : ∀ v, Pm v → XS X rest (EJ v) (κ2 v)) (hκ : κ = κ2 (if c = true then va else vb) := by rfl) : XS X (.If t sa sb pos :: rest) ρ κ :=
  xs_ifJ (EJ (if c = true then va else vb)) h (fun z => by rw [if_pos z]; exact h1 z) (fun z => by rw [if_neg (by rw [z]; exact Bool.false_ne_true)]; exact h2 z) (by rw [hκ]; exact k _ hp)
theorem xs_forPG (l : List α) (enc : α → D) (E : S → VE) (step : S → α → S) (s0 : S) (ok : S → α → Prop) (Pm : S → Prop) (κ2 : S → KS) (hi : EvI X tg iter ρ (l.map enc) ρ1) (hok : okF ok step l s0) (hs : ∀ s x, x ∈ l → ok s x → XG X tg js (enc x) (E s) fun ρ2 => XS X body ρ2 (kL (E (step s x)))) (hp : Pm (l.foldl step s0)) (k : ∀ s, Pm s → XS X rest (E s) (κ2 s)) (hκ : κ = κ2 (l.foldl step s0) := by rfl) (hρ : ρ1 = E s0 := by rfl)
    (hpo : PassesOwn (model X.prog X.w) X.A X.env X.xe := by exact PassesOwn.never) (hc : X.calm = true := by rfl) (io : IoK ρ ρ1 := by first | exact IoK.refl _ | exact ioK_ok rfl) (hfs : ∀ x, foldedSetIterable iter X.env x = pure x := by intro _; rfl) : XS X (.For tg iter body [] pos :: rest) ρ κ :=
  xs_forP l enc E step s0 ok hi hok hs (by rw [hκ]; exact k _ hp) hρ hpo hc io hfs
theorem xs_setLcM (v : Nat) {nm : Str} {py lpos : Pos} (l : List α) (enc : α → D) (encB : β → D) (E : α → VE) (f : α → β) (Pm : List β → Prop) (ρ2 : List β → VE) (κ2 : List β → KS) (hc : X.calm = true) (hN : X.N.Nodup) (hy : X.N[v]? = some nm) (hyl : X.env.scope.names.lookup nm = some .local)
    (hi : EvI X tg iter ρ (l.map enc) ρ1) (ok : BlkOk X.N X.env.scope scope own) (hjs : ∀ j, j ∈ js → j ∈ own.map (·.2))
    (hm : ∀ x ∈ l, mergeV ρ1 (E x) (own.map (·.2)) = ρ1) (hG : ∀ x ∈ l, InB X scope fun Y => XG Y tg js (enc x) (wipeV ρ1 (own.map (·.2))) (· = E x)) (hE : ∀ x ∈ l, InB X scope fun Y => EvD Y elt (E x) (.fz (encB (f x))) (E x))
    (hz : l.length < sizeLine) (hp : Pm (l.map f)) (k : ∀ w, Pm w → XS X rest (ρ2 w) (κ2 w)) (hκ : κ = κ2 (l.map f) := by rfl) (hρ : ρ1.set v (.fz (eLst encB (l.map f))) = ρ2 (l.map f) := by rfl)
    (hsw : swapsWith (.ListComp elt [⟨tg, iter, [], 0⟩] scope lpos) (some (.Name nm py)) pos.line X.env = pure true := by rfl) (hl : decide (v < ρ1.length) = true := by rfl) (hio : isIo ρ1[v]? = false := by rfl) (io : IoK ρ ρ1 := by first | exact IoK.refl _ | exact ioK_ok rfl) (hfs : ∀ x, foldedSetIterable iter X.env x = pure x := by intro _; rfl) :
    XS X (.Assign [.Name nm py] (.ListComp elt [⟨tg, iter, [], 0⟩] scope lpos) pos :: rest) ρ κ := by
  have e : l.filter (fun _ => true) = l := List.filter_eq_self.mpr fun _ _ => rfl
  exact xs_setLcG v l enc encB E (fun _ => true) f Pm ρ2 κ2 hc hN hy hyl hi ok hjs hm hG (fun _ _ _ _ _ _ _ => ets_nil) (fun x h _ => hE x h) hz (by rw [e]; exact hp) k (by rw [e]; exact hκ) (by rw [e]; exact hρ) hsw hl hio io hfs
/-! ### equality alone -/
structure DatE {α : Type} [DecidableEq α] (enc : α → D) (n : Nat) : Prop where
  pure : ∀ x, (enc x).pure = true
  eqv : ∀ x y, PyData.eqv (enc x).py (enc y).py = decide (x = y)
  dep : ∀ x, (enc x).py.depth ≤ n
theorem DatE.of [DecidableEq α] {lt : α → α → Bool} (h : Dat enc lt n) : DatE enc n := ⟨h.pure, h.eqv, h.dep⟩
theorem DatE.pureL [DecidableEq α] (h : DatE enc n) : ∀ l : List α, D.pureL (l.map enc) = true
  | [] => rfl
  | x :: l => by rw [List.map_cons, D.pureL, h.pure, DatE.pureL h l]; rfl
theorem DatE.eqL [DecidableEq α] (h : DatE enc n) : ∀ l m : List α, PyData.eqvAll (D.pyL (l.map enc)) (D.pyL (m.map enc)) = decide (l = m)
  | [], [] => by simp [D.pyL, PyData.eqvAll]
  | [], y :: m => by simp [D.pyL, PyData.eqvAll]
  | x :: l, [] => by simp [D.pyL, PyData.eqvAll]
  | x :: l, y :: m => by
    simp only [List.map_cons, D.pyL, PyData.eqvAll]
    rw [h.eqv, DatE.eqL h l m]
    by_cases h1 : x = y <;> by_cases h2 : l = m <;> simp [h1, h2]
theorem DatE.depL [DecidableEq α] (h : DatE enc n) : ∀ l : List α, PyData.depthAll (D.pyL (l.map enc)) ≤ n
  | [] => by simp [D.pyL, PyData.depthAll]
  | x :: l => by
    simp only [List.map_cons, D.pyL, PyData.depthAll]
    exact Nat.max_le.mpr ⟨h.dep x, DatE.depL h l⟩
theorem DatE.tup [DecidableEq α] (h : DatE enc n) : DatE (eTup enc) (n + 1) where
  pure l := h.pureL l
  eqv l m := by
    show PyData.eqv (.tuple _) (.tuple _) = _
    simp only [PyData.eqv]
    exact h.eqL l m
  dep l := by
    show PyData.depth (.tuple _) ≤ _
    have := h.depL l
    simp only [PyData.depth]
    omega
theorem DatE.list [DecidableEq α] (h : DatE enc n) : DatE (eLst enc) (n + 1) where
  pure l := h.pureL l
  eqv l m := by
    show PyData.eqv (.list _) (.list _) = _
    simp only [PyData.eqv]
    exact h.eqL l m
  dep l := by
    show PyData.depth (.list _) ≤ _
    have := h.depL l
    simp only [PyData.depth]
    omega
theorem cp_eqE [DecidableEq α] {u v : α} (G : DatE enc n) (hn : n ≤ 64) (hu : X.A.units + 64 < cLine) (ha : EvD X a ρ (.fz (enc u)) ρ1) (hb : EvD X b ρ1 (.fz (enc v)) ρ2) : CpD X .Eq a b ρ (.fz (.bl (decide (u = v)))) ρ2 :=
  cp_as (cp_eqD ha hb hu (G.pure u) (G.pure v) (Nat.le_trans (G.dep u) hn) (Nat.le_trans (G.dep v) hn)) (by rw [G.eqv])
theorem cp_neE [DecidableEq α] {u v : α} (G : DatE enc n) (hn : n ≤ 64) (hu : X.A.units + 64 < cLine) (ha : EvD X a ρ (.fz (enc u)) ρ1) (hb : EvD X b ρ1 (.fz (enc v)) ρ2) : CpD X .NotEq a b ρ (.fz (.bl (!decide (u = v)))) ρ2 :=
  cp_as (cp_neD ha hb hu (G.pure u) (G.pure v) (Nat.le_trans (G.dep u) hn) (Nat.le_trans (G.dep v) hn)) (by rw [G.eqv])
theorem cp_eqS {s1 s2 : Str} {v : Bool} (hu : X.A.units + 64 < cLine) (ha : EvD X a ρ (.fz (.str s1)) ρ1) (hb : EvD X b ρ1 (.fz (.str s2)) ρ2) (h1 : (PyData.str s1).canLay0 = true := by decide +kernel) (h2 : (PyData.str s2).canLay0 = true := by decide +kernel) (hv : (s1 == s2) = v := by decide +kernel) : CpD X .Eq a b ρ (.fz (.bl v)) ρ2 :=
  cp_as (cp_eqD ha hb hu h1 h2 (by simp [D.py, PyData.depth]) (by simp [D.py, PyData.depth])) (by
    show Var.fz (.bl (PyData.eqv (.str s1) (.str s2))) = _
    simp only [PyData.eqv]
    rw [hv])
/-! ### displays, typed -/
theorem ev_tupT {es : List Expr} {k : Nat} (enc : α → D) (l : List α) (h : EvA X es ρ (l.map enc) ρ1) (hz : l.length ≤ 1000000 := by exact Nat.le_of_ble_eq_true rfl) : EvD X (.Tuple es k pos) ρ (.fz (eTup enc l)) ρ1 := ev_tup h (by rw [List.length_map]; exact Nat.le_trans hz (by decide))
theorem ev_lstT {es : List Expr} (enc : α → D) (l : List α) (h : EvA X es ρ (l.map enc) ρ1) (hz : l.length ≤ 1000000 := by exact Nat.le_of_ble_eq_true rfl) : EvD X (.List es pos) ρ (.ow (eLst enc l)) ρ1 := ev_lst h (by rw [List.length_map]; exact Nat.le_trans hz (by decide))
theorem xs_ifTT {sa sb : List Stmt} (h : EvT X t ρ true ρ) (h1 : XS X sa ρ (noNx κ)) : XS X (.If t sa sb pos :: rest) ρ κ :=
  xs_cons (x1_if h (fun _ => h1.mono ⟨fun _ q => q.elim, fun _ _ q => q, fun _ q => q, fun _ q => q⟩) fun z => Bool.noConfusion z)
theorem ev_intN (hg : Gl X "int") (hm : X.mg "int" = none) (ha : EvD X e ρ (.fz (eN n)) ρ1) (he : starEach [e] X.env = (false, eval e X.env) :: starEach [] X.env := by first | exact star_cons rfl | rfl) : EvD X (.Call (.Name "int" p) [e] [] pos) ρ (.fz (eN n)) ρ1 := ev_intI hg hm (ea_1 ha he) he
end
end DL

/-! DL18: matroids as data. -/
namespace DL
open PySem PySem.Spec PyProof.Rows L2 PySem.W

structure Mat where
  ground : List Nat
  bases : List (List Nat)
  ranks : List Nat
  full : Nat
instance : Inhabited Mat := ⟨⟨[], [], [], 0⟩⟩
abbrev fM : List Str := ["ground", "bases", "own_ranks", "own_full"]
abbrev eM (C : Addr) (m : Mat) : D := .ins C fM [eTup eN m.ground, eTup (eTup eN) m.bases, eLst eN m.ranks, eN m.full]
/-- what isinstance asks of the class -/
structure IsM (K : PySem.W.Frag) (C : Addr) : Prop where
  ha : PySem.W.findIn K (.ref C) "__class__" = some (some (.builtin "object.__class__"))
  hn : PySem.W.specialIn K (.builtin "object.__class__") "__get__" = some (some (.builtin "getset_descriptor.__get__"))
  htk : PySem.W.takesIn K (.builtin "object.__class__") = some true
  hm : PySem.W.mroIn K C (.type "object") = some true
section
variable {X : Cx} {e a b : Expr} {es : List Expr} {ρ ρ1 ρ2 ρ3 : VE} {pos p p2 : Pos} {k : Nat} {C : Addr}
theorem ev_isiM {m : Mat} {T : Str} (hg : Gl X "isinstance") (hm : X.mg "isinstance" = none) (hgT : Gl X T) (hmT : X.mg T = some (.ref C)) (M : IsM X.K C) (cl : Cls X.K C) (ha : EvD X a ρ (.fz (eM C m)) ρ) (hdb : (T == ("__debug__" : Str)) = false := by decide)
    (he : starEach [a, .Name T p2] X.env = (false, eval a X.env) :: starEach [.Name T p2] X.env := by first | exact star_cons rfl | rfl) (hpl : (backTo pos (starEach [.Name T p2] X.env)).any (·.1) = false := by first | exact plain_star rfl | rfl) :
    EvD X (.Call (.Name "isinstance" p) [a, .Name T p2] [] pos) ρ (.fz (.bl true)) ρ :=
  ev_B call_isi hg hm (by decide +kernel) (ea_cons ha (ea_1 (x := .raw (.ref C)) (ev_c (pe_glob (v := .ref C) hgT hmT rfl hdb) fun _ => rfl)) he) (fun vs B H Q s r q => by
    obtain ⟨v, w, e1, r1, v2, w2, e2, r2, e3⟩ := r
    obtain ⟨a0, dx, ws, h1, h2, _, _⟩ := r1
    refine ⟨v, v2, .ref C, .ref C, true, by rw [e1, e2, show w2 = [] from e3], ?_, ?_, if_pos (beq_self_eq_true _), q _ B H (Grw.refl s) rfl⟩
    · rw [show v2 = V.ref C from r2]
      exact .own C
    · rw [h1]
      exact .base (.ins (s _ _ h2) cl M.ha M.hn M.htk M.hm)) (by decide) (by decide) he hpl
end
/-- then the rest -/
abbrev kC (X : Cx) (rest : List Stmt) (κ : KS) : KS := { κ with nx := fun ρ2 => XS X rest ρ2 κ }
/-! ### a def's promise by its body, whatever defaults it has -/
section
variable {P : Program} {w : World} {K : PySem.W.Frag} {mg : Str → Option Value} {base : Heap}
theorem fnok_of {x qual : Str} {st : Stmt} {f : Addr} {fd : FuncData} {N ps : List Str} {k : Nat} {S : FS} {dvs : List V} {kws : List (Str × V)} (F : FunD K x qual (defArgs st) (defBody st) (defScope st) dvs kws f fd) (Sc : FnScope N ps (defScope st)) (hps : ps.length ≤ N.length)
    (hS : ∀ as r as', S as r as' → parF as = true ∧ as'.length = as.length ∧ as.length = ps.length)
    (body : ∀ (cdv : Value) (A : Around) (outer : List Env) (s : Shared) (H : Hp) (E : XK), Room k (A.deeper (envOfC qual (defScope st) s.heap.objs.size f cdv)) → ∀ as r as', S as r as' →
      XS (cxD P w K mg base N qual st f cdv A outer s H E) (defBody st) (startV N.length as) { nx := fun ρ => r = .fz .non ∧ ParOk as as' ρ, rt := fun r' ρ => r' = r ∧ ParOk as as' ρ }) : FnOk P w K mg base CX0 (k + 1) f fd ps (spF K S) := by
  have lenv : ∀ vs H Q E, spF K S vs H Q E → vs.length = ps.length := fun vs H Q E ⟨B, as, r, as', I, hs, _⟩ => by
    rw [← (hS as r as' hs).2.2, I.len, List.length_map]
  refine FunD.ok F Sc lenv fun cdv A outer s H vs Q E hr h => ⟨_, PSs.nox pss_w, ?_⟩
  exact fn_read (X := cxD P w K mg base N qual st f cdv A outer s H E) (N := N) (E := E) (by rw [lenv vs H Q E h]; exact hps) (fun as r as' z => ⟨(hS as r as' z).1, (hS as r as' z).2.1⟩) (body cdv A outer s H E hr) h
end
theorem ParOk.io1 {d0 d1 : D} {ds : List D} {ρ : VE} (h : ρ[0]? = some (.io d1)) : ParOk (.io d0 :: ds.map .fz) (.io d1 :: ds.map .fz) ρ := fun i hi => by
  cases i with
  | zero => exact ⟨fun _ => ⟨h.symm, rfl⟩, fun z => by cases z⟩
  | succ i =>
    have e : isIo (ds.map Var.fz)[i]? = false := by
      rw [List.getElem?_map]
      cases ds[i]? <;> rfl
    exact ⟨fun z => absurd (show isIo (ds.map Var.fz)[i]? = true from z) (by rw [e]; exact Bool.false_ne_true), fun _ => rfl⟩
theorem parF_io1 {d0 : D} {ds : List D} : parF (.io d0 :: ds.map .fz) = true := parF_map ds
section
variable {X : Cx} {e : Expr} {rest : List Stmt} {ρ ρ1 : VE} {y : D} {pos : Pos} {κ : KS} {i : Nat}
theorem xs_fld {w : Bool} {C : Addr} {fs : List Str} {ls : List D} {nm f : Str} {px pf : Pos} {value : Expr} (i : Nat) (ρ2 : VE) (he : EvD X value ρ (.fz y) ρ1) (hN : X.N[i]? = some nm) (hi : ρ1[i]? = some (Var.own w (.ins C fs ls))) (cl : Cls X.K C) (na : NoAttr X.K C f) (hf : fs.contains f = false) (hl : fs.length < 1000)
    (hρ : ρ1.set i (Var.own w (.ins C (fs ++ [f]) (ls ++ [y]))) = ρ2) (k : XS X rest ρ2 κ) (hs : swapsWith value (some (.Attribute (.Name nm px) f pf)) pos.line X.env = pure false := by rfl) (io : IoK ρ ρ1 := by first | exact IoK.refl _ | exact ioK_ok rfl)
    (hv : Vis X.env.scope nm := by first | exact Or.inl rfl | exact Or.inr (Or.inl rfl) | exact Or.inr (Or.inr rfl)) (hd : (nm == ("__debug__" : Str)) = false := by decide) (hcd : (nm == ("__classdict__" : Str)) = false := by decide) : XS X (.Assign [.Attribute (.Name nm px) f pf] value pos :: rest) ρ κ :=
  xs_cons (x1_fldN i hN he hi cl na hf hl (by rw [hρ]; exact k) hs io hv hd hcd)
end
end DL

/-! DL23: what isinstance asks of one class, told by the head. -/
namespace DL
open PySem PySem.Spec PyProof.Rows L2 He
theorem isMB_ok {K : PySem.W.Frag} {C : Addr} (h : isMB K C = true) : IsM K C := by
  obtain ⟨h1, h⟩ := ba h
  obtain ⟨h2, h⟩ := ba h
  obtain ⟨h3, h4⟩ := ba h
  exact ⟨eqO_ok h1, eqO_ok h2, of_decide_eq_true h3, of_decide_eq_true h4⟩
theorem SaysI.m {fa : List Fa} {fn : List DefD} {c : Str} {K : PySem.W.Frag} (h : SaysI fa fn c K) : IsM K (ga K c) := isMB_ok (congrArg Prod.snd h)
end DL

/-! DL19: a parallel store whose second value is new and stays owned. -/
namespace DL
open PySem PySem.Spec PyProof.Rows L2
section
variable {X : Cx} {a b : Expr} {rest : List Stmt} {ρ ρ1 ρ2 : VE} {pos : Pos} {κ : KS}
theorem x1_parO (i j : Nat) {x y : Str} {px py pt pos : Pos} {kt k2 : Nat} {pt2 : Pos} {d1 d2 : D} (ha : EvD X a ρ (.fz d1) ρ1) (hb : EvD X b ρ1 (.ow d2) ρ2) (hc : X.calm = true) (hN : X.N.Nodup) (hi : X.N[i]? = some x) (hj : X.N[j]? = some y) (hij : i ≠ j) (hx : X.env.scope.names.lookup x = some .local) (hy : X.env.scope.names.lookup y = some .local)
    (k : κ.nx ((ρ2.set i (.fz d1)).set j (.ow d2))) (hw : swappedStores [.Tuple [.Name x px, .Name y py] kt pt] (.Tuple [a, b] k2 pt2) X.env = pure (some [x, y])) (hs : swapsWithSole [.Tuple [.Name x px, .Name y py] kt pt] (.Tuple [a, b] k2 pt2) pos.line X.env = pure false := by rfl)
    (hl : decide (i < ρ2.length ∧ j < ρ2.length) = true := by rfl) (hio : isIo ρ2[i]? = false := by rfl) (hio2 : isIo (ρ2.set i (.fz d1))[j]? = false := by rfl) (io : IoK ρ ρ1 := by first | exact IoK.refl _ | exact ioK_ok rfl) (io2 : IoK ρ1 ρ2 := by first | exact IoK.refl _ | exact ioK_ok rfl)
    (h1 : starEach [a, b] X.env = (false, eval a X.env) :: starEach [b] X.env := by first | exact star_cons rfl | rfl) (h2 : starEach [b] X.env = (false, eval b X.env) :: starEach [] X.env := by first | exact star_cons rfl | rfl) :
    X1 X (.Assign [.Tuple [.Name x px, .Name y py] kt pt] (.Tuple [a, b] k2 pt2) pos) ρ κ := .mk fun σ B H D I S => by
  refine wS.of (ps_par hc hN hi hj hij hx hy (pa_cons pe_w (pa_cons pe_w pa_nil h2) h1) hw hs) (ha σ B H _ I fun v B1 H1 I1 g1 r1 => hb σ B1 H1 _ I1 fun u B2 H2 I2 g2 r2 => ⟨v, u, rfl, ?_⟩)
  have hl' := of_decide_eq_true hl
  obtain ⟨I3, g3⟩ := set_fz I2 (GoS.refl σ ρ2 B2 H2) (Rep.mono g2.bsub r1) hl'.1 hio
  obtain ⟨a0, e0, o0, n0, z0⟩ := r2
  have sub : ∀ q, Rt (σ.set i (some v)) (ρ2.set i (.fz d1)) q → Rt σ ρ2 q := fun q z => by
    rcases rt_set I2.len hl'.1 z with ⟨w, _⟩ | w
    · cases w
    · exact w
  have gg : Go (Rt σ ρ1) B1 H1 (Rt (σ.set i (some v)) (ρ2.set i (.fz d1))) B2 H2 := ⟨g2.bsub, g2.keep, g2.there, g2.new, fun q z => g2.roots q (sub q z)⟩
  have io3 : IoK ρ1 (ρ2.set i (.fz d1)) := io2.trans (ioK_set hio)
  have hr : EnvOk X.K B2 H2 ((σ.set i (some v)).set j (some u)) ((ρ2.set i (.fz d1)).set j (.ow d2)) := I3.setv (by rw [List.length_set]; exact hl'.2) ⟨a0, by rw [e0], o0⟩ fun _ q e => by
    have e3 : a0 = q := by rw [e0] at e; cases e; rfl
    subst e3
    exact fun z => n0 (sub _ z)
  refine S.nx _ _ B2 H2 k hr ⟨g1.trans ⟨gg.bsub, gg.keep, gg.there, gg.new, fun q z => ?_⟩, fun m h => ?_⟩
  · rcases rt_set I3.len (by rw [List.length_set]; exact hl'.2) z with ⟨_, e⟩ | w
    · rw [e0] at e
      cases e
      exact .inr z0
    · exact gg.roots q w
  · have m1 := io3 m (io m h)
    have mj : m ≠ j := fun z => by rw [z, hio2] at m1; cases m1
    have mi : m ≠ i := fun z => by
      have := io2 m (io m h)
      rw [z, hio] at this
      cases this
    refine ⟨?_, ?_⟩
    · rw [List.getElem?_set_ne (Ne.symm mj)]
      exact m1
    · rw [List.getElem?_set_ne (Ne.symm mj), List.getElem?_set_ne (Ne.symm mi)]
theorem xs_parO (i j : Nat) (ρ3 : VE) {x y : Str} {px py pt pos : Pos} {kt k2 : Nat} {pt2 : Pos} {d1 d2 : D} (ha : EvD X a ρ (.fz d1) ρ1) (hb : EvD X b ρ1 (.ow d2) ρ2) (hc : X.calm = true) (hN : X.N.Nodup) (hi : X.N[i]? = some x) (hj : X.N[j]? = some y) (hij : i ≠ j) (hx : X.env.scope.names.lookup x = some .local) (hy : X.env.scope.names.lookup y = some .local)
    (k : XS X rest ρ3 κ) (hρ : (ρ2.set i (.fz d1)).set j (.ow d2) = ρ3 := by rfl) (hw : swappedStores [.Tuple [.Name x px, .Name y py] kt pt] (.Tuple [a, b] k2 pt2) X.env = pure (some [x, y]) := by rfl) (hs : swapsWithSole [.Tuple [.Name x px, .Name y py] kt pt] (.Tuple [a, b] k2 pt2) pos.line X.env = pure false := by rfl)
    (hl : decide (i < ρ2.length ∧ j < ρ2.length) = true := by rfl) (hio : isIo ρ2[i]? = false := by rfl) (hio2 : isIo (ρ2.set i (.fz d1))[j]? = false := by rfl) (io : IoK ρ ρ1 := by first | exact IoK.refl _ | exact ioK_ok rfl) (io2 : IoK ρ1 ρ2 := by first | exact IoK.refl _ | exact ioK_ok rfl)
    (h1 : starEach [a, b] X.env = (false, eval a X.env) :: starEach [b] X.env := by first | exact star_cons rfl | rfl) (h2 : starEach [b] X.env = (false, eval b X.env) :: starEach [] X.env := by first | exact star_cons rfl | rfl) :
    XS X (.Assign [.Tuple [.Name x px, .Name y py] kt pt] (.Tuple [a, b] k2 pt2) pos :: rest) ρ κ := xs_cons (x1_parO i j ha hb hc hN hi hj hij hx hy (by rw [hρ]; exact k) hw hs hl hio hio2 io io2 h1 h2)
end
end DL

/-! DL20: defs that change their first argument. -/
namespace DL
open PySem PySem.Spec PyProof.Rows L2
/-- of a def whose first parameter is its caller's: the result, the parameter behind it -/
abbrev kI {V S : Type} (enc : V → Var) (encS : S → D) (v : V × S) : KS := { nx := fun ρ => enc v.1 = .fz .non ∧ ρ[0]? = some (.io (encS v.2)), rt := fun r' ρ => r' = enc v.1 ∧ ρ[0]? = some (.io (encS v.2)) }
/-- its promise: the arguments' data (the first one's ahead), result, the first one's data behind -/
def FI (R : D → List D → Var → D → Prop) : FS := fun as r as' => ∃ d0 ds d1, R d0 ds r d1 ∧ as = .io d0 :: ds.map .fz ∧ as' = .io d1 :: ds.map .fz
theorem FI.par {R : D → List D → Var → D → Prop} {n : Nat} (h : ∀ d0 ds r d1, R d0 ds r d1 → ds.length + 1 = n) : ∀ as r as', FI R as r as' → parF as = true ∧ as'.length = as.length ∧ as.length = n := fun as r as' ⟨d0, ds, d1, hr, e1, e2⟩ => by
  subst e1 e2
  exact ⟨parF_io1, rfl, by rw [List.length_cons, List.length_map]; exact h _ _ _ _ hr⟩
theorem FI.mk {R : D → List D → Var → D → Prop} {d0 d1 : D} {ds : List D} {r : Var} (h : R d0 ds r d1) : FI R (.io d0 :: ds.map .fz) r (.io d1 :: ds.map .fz) := ⟨d0, ds, d1, h, rfl, rfl⟩
theorem XS.ofI {X : Cx} {sts : List Stmt} {ρ : VE} {V S : Type} {enc : V → Var} {encS : S → D} {v : V × S} {d0 : D} {ds : List D} (h : XS X sts ρ (kI enc encS v)) :
    XS X sts ρ { nx := fun ρ => enc v.1 = .fz .non ∧ ParOk (.io d0 :: ds.map .fz) (.io (encS v.2) :: ds.map .fz) ρ, rt := fun r' ρ => r' = enc v.1 ∧ ParOk (.io d0 :: ds.map .fz) (.io (encS v.2) :: ds.map .fz) ρ } :=
  h.mono ⟨fun _ q => ⟨q.1, ParOk.io1 q.2⟩, fun _ _ q => ⟨q.1, ParOk.io1 q.2⟩, fun _ q => q, fun _ q => q⟩
end DL

/-! DL21: repr, lists unpacked, a law's own context. -/
namespace DL
open PySem PySem.Spec PyProof.Rows L2 PySem.W
structure RpOk (d : PyData) : Prop where
  lay : d.layable0 = true
  sh : d.showable = true
  sz : d.shown.length ≤ sizeLine
section
variable {X : Cx} {e a b : Expr} {es tgs : List Expr} {ρ ρ1 ρ2 : VE} {pos p : Pos} {d x y : D} {ds : List D} {js : List Nat} {P : VE → Prop}
theorem call_repr_d (hg : X.A.guards = some []) (hu : X.A.units + 66 < cLine) : CallR X (.builtin "repr") fun xs H Q => ∃ a d, xs = [V.ref a] ∧ Dp X.K H (.ref a) d ∧ RpOk d ∧ Q (.str d.shown) H := by
  intro pins s σ H xs us Q I r h
  obtain ⟨a, d, rfl, hd, hr, q⟩ := h
  obtain ⟨u, rfl, r1⟩ := vals1 r
  obtain ⟨as, rd⟩ := Dp.reads I d _ u hd r1
  cases r1
  exact repr_of_reads' rd hr.sh (PyData.noDict_hsm (PyData.hasDict_of_layable hr.lay)) hg (by have := PyData.depth_le_of_layable hr.lay; omega) (fun _ _ z => z) (fun h' u tk hk => ⟨.str _, H, I.kept hk, ⟨_, rfl⟩, q⟩) hr.sz
/-- a list's or a tuple's text -/
theorem ev_repr (hg : X.A.guards = some []) (hu : X.A.units + 66 < cLine) (gl : Gl X "repr") (hm : X.mg "repr" = none) (ha : EvA X [e] ρ [d] ρ1) (hp : d.pure = true) (hd : ∀ B v, Rep X.K B d v → ∃ a, v = .ref a) (hr : RpOk d.py) (he : starEach [e] X.env = (false, eval e X.env) :: starEach [] X.env := by first | exact star_cons rfl | rfl) : EvD X (.Call (.Name "repr" p) [e] [] pos) ρ (.fz (.str d.py.shown)) ρ1 :=
  ev_B (he := he) (call_repr_d hg hu) gl hm (by decide +kernel) ha fun vs B H Q s r q => by
    obtain ⟨v, e1, rv⟩ := r.one_of
    obtain ⟨a, e2⟩ := hd B v rv
    subst e2
    exact ⟨a, d.py, e1, Rep.dp hp (rv.mono s), hr, q _ B H (Grw.refl s) rfl⟩
theorem tup_ref {B : Hp} {v : V} {l : List D} (h : Rep X.K B (.tup l) v) : ∃ a, v = .ref a := let ⟨a, _, e, _⟩ := h; ⟨a, e⟩
theorem lst_ref {B : Hp} {v : V} {l : List D} (h : Rep X.K B (.lst l) v) : ∃ a, v = .ref a := let ⟨a, _, e, _⟩ := h; ⟨a, e⟩
theorem cp_neStr {s t : Str} (ha : EvD X a ρ (.fz (.str s)) ρ1) (hb : EvD X b ρ1 (.fz (.str t)) ρ2) : CpD X .NotEq a b ρ (.fz (.bl (!decide (s = t)))) ρ2 := cp_op op_ne ha hb fun v w B H Q g hv hw q => by
  have e1 : v = .str s := hv
  have e2 : w = .str t := hw
  subst e1 e2
  refine ⟨rfl, ?_⟩
  have : decide (V.str s = V.str t) = decide (s = t) := decide_eq_decide.mpr ⟨fun z => V.str.inj z, fun z => congrArg _ z⟩
  rw [this]
  exact q _ B H (Grw.refl g) rfl
/-- name = [..] whose turns change things, frozen at once -/
theorem xs_setLcS {α β S : Type} {elt tg iter : Expr} {ifs : List Expr} {scope : Scope} {own : List (Str × Nat)} {rest : List Stmt} {κ : KS} (v : Nat) {nm : Str} {py lpos : Pos} (l : List α) (enc : α → D) (encB : β → D) (O : S → VE) (E E1 E2 : S → α → VE) (q : S → α → Bool) (s1 : S → α → S) (f : S → α → β) (s2 : S → α → S) (s0 : S) (okk : S → α → Prop) (ρ2 : VE)
    (hc : X.calm = true) (hN : X.N.Nodup) (hy : X.N[v]? = some nm) (hyl : X.env.scope.names.lookup nm = some .local) (hi : EvI X tg iter ρ (l.map enc) ρ1) (ok : BlkOk X.N X.env.scope scope own) (hjs : ∀ j, j ∈ js → j ∈ own.map (·.2)) (hok : okS okk q s1 s2 l s0)
    (hm1 : ∀ s x, q s x = false → mergeV (O s) (E1 s x) (own.map (·.2)) = O (s1 s x)) (hm2 : ∀ s x, q s x = true → mergeV (O s) (E2 s x) (own.map (·.2)) = O (s2 s x)) (hG : ∀ s, ∀ x ∈ l, InB X scope fun Y => XG Y tg js (enc x) (wipeV (O s) (own.map (·.2))) (· = E s x))
    (hT : ∀ s, ∀ x ∈ l, okk s x → InB X scope fun Y => EvTs Y ifs (E s x) (q s x) (E1 s x)) (hE : ∀ s, ∀ x ∈ l, okk s x → q s x = true → InB X scope fun Y => EvD Y elt (E1 s x) (.fz (encB (f s x))) (E2 s x)) (hz : l.length < sizeLine)
    (k : XS X rest ρ2 κ) (hρ : (O (lcS q s1 f s2 l s0).2).set v (.fz (eLst encB (lcS q s1 f s2 l s0).1)) = ρ2 := by rfl) (hρ1 : ρ1 = O s0 := by rfl) (hl : decide (v < (O (lcS q s1 f s2 l s0).2).length) = true := by rfl) (hio : isIo (O (lcS q s1 f s2 l s0).2)[v]? = false := by rfl) (io : IoK ρ (O (lcS q s1 f s2 l s0).2) := by first | exact IoK.refl _ | exact ioK_ok rfl)
    (hsw : swapsWith (.ListComp elt [⟨tg, iter, ifs, 0⟩] scope lpos) (some (.Name nm py)) pos.line X.env = pure true := by rfl) (hfs : ∀ x, foldedSetIterable iter X.env x = pure x := by intro _; rfl) : XS X (.Assign [.Name nm py] (.ListComp elt [⟨tg, iter, ifs, 0⟩] scope lpos) pos :: rest) ρ κ := by
  refine xs_cons (x1_setLc v (ds := l.map enc) (df := (lcS q s1 f s2 l s0).1.map encB) (ρf := O (lcS q s1 f s2 l s0).2) hc hN hy hyl hsw hi ok (fun i ρ' out => ∃ s pre, ρ' = O s ∧ out = pre.map encB ∧ pre.length ≤ i ∧ okS okk q s1 s2 (l.drop i) s ∧ (pre ++ (lcS q s1 f s2 (l.drop i) s).1, (lcS q s1 f s2 (l.drop i) s).2) = lcS q s1 f s2 l s0) ⟨s0, [], hρ1, rfl, Nat.le_refl _, hok, rfl⟩ hjs (fun i d ρ' out hd k => ?_) (fun ρ' out k => ?_) (by rw [List.length_map]; exact hz) (fun i ρ' out k => ?_) ?_ hl hio io hfs)
  · obtain ⟨s, pre, e1, e2, hl, o, lp⟩ := k
    subst e1 e2
    rw [List.getElem?_map] at hd
    obtain ⟨x, h1, h2⟩ := Option.map_eq_some_iff.mp hd
    subst h2
    obtain ⟨hlt, hx⟩ := List.getElem?_eq_some_iff.mp h1
    have hmem := List.mem_of_getElem? h1
    have ed : l.drop i = x :: l.drop (i + 1) := by rw [← hx]; exact List.drop_eq_getElem_cons hlt
    rw [ed] at o lp
    refine ⟨E s x, q s x, E1 s x, hG s x hmem, hT s x hmem o.1, fun h => ⟨encB (f s x), E2 s x, hE s x hmem o.1 h, ?_⟩, fun h => ?_⟩
    · have o2 := o.2
      rw [if_pos h] at o2
      refine ⟨s2 s x, pre ++ [f s x], hm2 s x h, by rw [List.map_append]; rfl, by simp; omega, o2, ?_⟩
      rw [← lp]
      show _ = (pre ++ (lcS q s1 f s2 (x :: l.drop (i + 1)) s).1, (lcS q s1 f s2 (x :: l.drop (i + 1)) s).2)
      unfold lcS
      rw [if_pos h]
      simp only [List.append_assoc, List.singleton_append]
      cases l.drop (i + 1) <;> simp [lcS]
    · have o2 := o.2
      rw [if_neg (by rw [h]; exact Bool.false_ne_true)] at o2
      refine ⟨s1 s x, pre, hm1 s x h, rfl, by omega, o2, ?_⟩
      rw [← lp]
      have e : lcS q s1 f s2 (x :: l.drop (i + 1)) s = lcS q s1 f s2 (l.drop (i + 1)) (s1 s x) := by
        show (if q s x = true then _ else _) = _
        rw [if_neg (by rw [h]; exact Bool.false_ne_true)]
      rw [e]
  · obtain ⟨s, pre, e1, e2, _, _, lp⟩ := k
    rw [List.length_map, List.drop_length] at lp
    have lp' : (pre ++ [], s) = lcS q s1 f s2 l s0 := lp
    rw [← lp', e1, e2, List.append_nil]
    exact ⟨rfl, rfl⟩
  · obtain ⟨s, pre, e1, e2, hl, _⟩ := k
    rw [e2, List.length_map]
    exact hl
  · refine xs_frz v (d := eLst encB (lcS q s1 f s2 l s0).1) ?_ ?_
    · rw [List.getElem?_set_self (of_decide_eq_true hl)]
    · rw [List.set_set, hρ]
      exact k
end
/-! ### a def in a context of its caller's -/
def FnAt (A : Around) (P : Program) (w : World) (K : Frag) (mg : Str → Option Value) (base : Heap) (f : Addr) (fd : FuncData) (ps : List Str) (S : Sp) : Prop :=
  ∀ (out : List Env) (s : Shared) (H : Hp) (ar : Args) (us : List Value) (vs : List V) (Q : VK) (E : XK), Env0 P w K mg base A out s H → BindsTo s fd ar (ps.zip us) → Vals vs us → S vs H Q E → codeAny (model P w) A (.call (.ref f) ar) (CR CX0 out P w H s Q E) s
theorem fn_at {A : Around} {P : Program} {w : World} {K : Frag} {mg : Str → Option Value} {base : Heap} {k : Nat} {f : Addr} {x qual : Str} {st : Stmt} {N ps : List Str} {S : Sp} {fd : FuncData} (F : FunD K x qual (defArgs st) (defBody st) (defScope st) [] [] f fd)
    (Sc : FnScope N ps (defScope st)) (hr : Room (k + 1) A) (hlen : ∀ vs H Q E, S vs H Q E → vs.length = ps.length)
    (body : ∀ (cdv : Value) (out : List Env) (s : Shared) (H : Hp) (vs : List V) (Q : VK) (E : XK), S vs H Q E → ∃ t, PSs (cxOf CX0 P w K mg base N qual (defScope st) f cdv A out s H E) (defBody st) t ∧ t { nx := fun _ H' => Q .non H', rt := Q } (start N vs) H) : FnAt A P w K mg base f fd ps S := by
  obtain ⟨oc, od, dV, kV, doc, pm, an, cdv, ct, osl, rfl, lk, hcd, _, _⟩ := F.ex
  intro out s H ar us vs Q E e0 hb rv hS
  have KX : K.In s.heap := e0.mod.kin.keeps fun b o e => (e0.bs b o e).1
  have lim := e0.mod.nolimit.keeps fun b o e => (e0.bs b o e).1
  have kinds : ∀ y ∈ ps.zip us, (defScope st).names.lookup y.1 = some .local ∨ ((defScope st).names.lookup y.1 = some .cell ∧ ((cellsFrom (s.heap.objs.size + 1) (defScope st).names []).lookup y.1).isSome = true) := fun y hy => by
    rcases Sc.par y.1 (List.of_mem_zip (a := y.1) (b := y.2) hy).1 with z | z
    · exact Or.inl z
    · exact Or.inr ⟨z, cellsFrom_some _ _ _ (Or.inl z)⟩
  refine codeAny_call_function hr.depth (KX _ _ lk) rfl Sc.co Sc.gen rfl (codeRec_of KX hcd) (hb _ _ _ _ ?_)
  refine wpAny_newFunctionEnv_cells Sc.kind kinds fun env he s1 x1 => ?_
  subst he
  refine ⟨lim.keeps x1.toInCall.keep, codeAny_func ?_⟩
  obtain ⟨t, ht, hq⟩ := body cdv out s H vs Q E hS
  have hl := hlen _ _ _ _ hS
  have I := inv_start (CX := CX0) Sc hr.hd e0 hl rv x1 (E := E) (qual := qual)
  refine wpAny_mono (ht.run [] s1 (start N vs) H _ I hq) (fun fl s' z => ?_) fun e s' z => z
  cases fl with
  | ret u =>
    obtain ⟨v, σ', H', J, r1, q⟩ := z
    exact ⟨v, H', J.os, J.bare, J.base, J.hok, r1, q⟩
  | next =>
    obtain ⟨σ', H', J, q⟩ := z
    exact ⟨V.non, H', J.os, J.bare, J.base, J.hok, rfl, q⟩
  | brk => obtain ⟨_, _, _, q⟩ := z; exact q.elim
  | cont => obtain ⟨_, _, _, q⟩ := z; exact q.elim
end DL

/-! DL22: a law's end whose promise is for the outermost call alone. -/
namespace DL
open PySem PySem.Spec PyProof.Rows L2 PySem.W
theorem fa_of {A : Around} {P : Program} {w : World} {K : Frag} {mg : Str → Option Value} {base : Heap} {x qual : Str} {st : Stmt} {f : Addr} {fd : FuncData} {N ps : List Str} {k : Nat} {S : FS} (F : FunD K x qual (defArgs st) (defBody st) (defScope st) [] [] f fd) (Sc : FnScope N ps (defScope st)) (hps : ps.length ≤ N.length) (hr : Room (k + 1) A)
    (hS : ∀ as r as', S as r as' → parF as = true ∧ as'.length = as.length ∧ as.length = ps.length)
    (body : ∀ (cdv : Value) (outer : List Env) (s : Shared) (H : Hp) (E : XK), Room k (A.deeper (envOfC qual (defScope st) s.heap.objs.size f cdv)) → ∀ as r as', S as r as' →
      XS (cxD P w K mg base N qual st f cdv A outer s H E) (defBody st) (startV N.length as) { nx := fun ρ => r = .fz .non ∧ ParOk as as' ρ, rt := fun r' ρ => r' = r ∧ ParOk as as' ρ }) : FnAt A P w K mg base f fd ps (spF K S) := by
  have lenv : ∀ vs H Q E, spF K S vs H Q E → vs.length = ps.length := fun vs H Q E ⟨B, as, r, as', I, hs, _⟩ => by
    rw [← (hS as r as' hs).2.2, I.len, List.length_map]
  refine fn_at F Sc hr lenv fun cdv outer s H vs Q E h => ⟨_, PSs.nox pss_w, ?_⟩
  exact fn_read (X := cxD P w K mg base N qual st f cdv A outer s H E) (N := N) (E := E) (by rw [lenv vs H Q E h]; exact hps) (fun as r as' z => ⟨(hS as r as' z).1, (hS as r as' z).2.1⟩) (body cdv outer s H E (hr.deeper _)) h
/-- the end of a law: its def's promise, its argument a list of whole numbers -/
theorem law_spec {K : Frag} {S : FS} {n : Nat} (hn : n ≤ sizeLine) (h : ∀ ns : List Int, ns.length ≤ n → S [.fz (.seq (ns.map D.int))] (.fz (.bl true)) [.fz (.seq (ns.map D.int))]) : ∀ (H : Hp) (a : Addr) (ns : List Int), ns.length ≤ n → Only H → SqL K H a (ns.map V.int) → spF K S [.ref a] H (fun v _ => v = .bl true) fun _ _ _ => False := fun H a ns hl hO hq => by
  refine ⟨H, _, _, _, ⟨Same.refl H, rfl, fun i r e => ?_, fun i j b _ h1 _ => ?_⟩, h ns hl, fun v B' H' I g rc => rc⟩
  · match i, e with
    | 0, e =>
      cases e
      exact ⟨.ref a, rfl, a, ns.map V.int, rfl, hq, RepL.of_ints ns⟩
  · match i, h1 with
    | 0, h1 => cases h1
theorem two_list {α : Type} [Inhabited α] {enc : α → D} {l : List α} (h : l.length = 2) : Var.fz (eLst enc l) = Var.fz (.lst [enc (nth l 0), enc (nth l 1)]) := by
  match l, h with
  | [x, y], _ => rw [show nth [x, y] 0 = x from by rw [nth_lt (Nat.zero_lt_succ _)]; rfl, show nth [x, y] 1 = y from by rw [nth_lt (Nat.lt_succ_self 1)]; rfl]; rfl
/-- (a, b) = a list of two -/
theorem xs_unpL {α : Type} [Inhabited α] {X : Cx} {e tg : Expr} {rest : List Stmt} {ρ ρ1 : VE} {κ : KS} {pos : Pos} {js : List Nat} (l : List α) (enc : α → D) (Pm : List α → Prop) (E2 : List α → VE) (κ2 : List α → KS) (h : EvD X e ρ (.fz (eLst enc l)) ρ1) (h2 : l.length = 2) (hg : XG X tg js (.lst [enc (nth l 0), enc (nth l 1)]) ρ1 (· = E2 l)) (hp : Pm l) (k : ∀ v, Pm v → XS X rest (E2 v) (κ2 v))
    (hκ : κ = κ2 l := by rfl) (io : IoK ρ ρ1 := by first | exact IoK.refl _ | exact ioK_ok rfl) (hs : swapsWithSole [tg] e pos.line X.env = pure false := by rfl) (hw : swappedStores [tg] e X.env = pure none := by rfl) (h1 : (assignEach [tg] X.env).map (·.2) = [assign tg X.env] := by rfl) : XS X (.Assign [tg] e pos :: rest) ρ κ := by
  subst hκ
  exact xs_unp (E2 l) (ev_as h (two_list h2)) hg (k l hp) io hs hw h1
theorem law_at {P : Program} {w : World} {K : Frag} {mg mb : Str → Option Value} {fa a : Addr} {fd : FuncData} {x : Str} {S : Sp} {s1 : Shared} {vs : List Value} {ns : List Int} (KX : K.In s1.heap) (hns : s1.heap.Ns mainGlobals mg) (hb : s1.heap.Ns builtinsNs mb)
    (hbb : ∀ y : Str, y ≠ "__name__" → mb y = bootBuiltins y) (hlim : s1.heap.NoLimit) (hg : s1.gens = #[]) (ha : s1.heap.get? a = some { cls := .type "list", data := .seq vs.toArray }) (hi : IntsAre vs ns) (hl : ns.length ≤ sizeLine)
    (F : ∀ base : Heap, K.In base → base.Ns mainGlobals mg → FnAt callerA P w K mg base fa fd [x] S) (hbind : ∀ (s : Shared) (u : Value), BindsTo s fd ⟨[u], []⟩ [(x, u)]) (hS : ∀ H : Hp, Only H → SqL K H a (ns.map V.int) → S [.ref a] H (fun v _ => v = .bl true) fun _ _ _ => False) :
    codeAny (model P w) callerA (.call (.ref fa) ⟨[.ref a], []⟩)
      (fun r s2 => r = .ok (.ret (.bool true)) ∧ OldK s1.heap s2.heap ∧ s2.os = s1.os ∧ AllBare s2.gens) s1 := by
  have rv := vals_ints hi
  have lv := hi.length
  have go : ∀ H : Hp, Only H → SqL K H a (ns.map V.int) → HOk P w H s1.heap → (∀ b, H b ≠ none → b = a) → (H a ≠ none → K.lookup a = none) →
      codeAny (model P w) callerA (.call (.ref fa) ⟨[.ref a], []⟩)
        (fun r s2 => r = .ok (.ret (.bool true)) ∧ OldK s1.heap s2.heap ∧ s2.os = s1.os ∧ AllBare s2.gens) s1 := fun H hO hq hok hA hK => by
    have only : ∀ {b : Addr}, H b ≠ none → b = a := fun {b} z => hA b z
    have keepN : ∀ {b : Addr} {m : Str → Option Value}, s1.heap.Ns b m → (hidT s1.heap H).Ns b m := fun {b m} ⟨o, es, ep, e1, e2, e3⟩ => by
      refine ⟨o, es, ep, hidT_get e1 ?_, e2, e3⟩
      cases z : H b with
      | none => rfl
      | some u =>
        have eb := only (b := b) (by rw [z]; exact fun y => by cases y)
        subst eb
        rw [ha] at e1
        cases e1
        exact Data.noConfusion (show Data.seq vs.toArray _ = Data.dict es ep from e2)
    have kin : K.In (hidT s1.heap H) := fun b o e1 => by
      refine hidT_get (KX b o e1) ?_
      cases z : H b with
      | none => rfl
      | some u =>
        have hz : H b ≠ none := by rw [z]; exact fun y => by cases y
        have eb := only (b := b) hz
        subst eb
        rw [hK hz] at e1
        cases e1
    obtain ⟨mc, c1, c2⟩ := hlim
    have e0 : Env0 P w K mg (hidT s1.heap H) callerA [] s1 H :=
      { frames := rfl, mod := ⟨kin, keepN hns, ⟨mb, keepN hb, hbb⟩, ⟨mc, keepN c1, c2⟩⟩, bs := fun b o e1 => of_hidT e1, bsz := Nat.le_of_eq (hidT_size _ _), funs := trivial, frf := fun b hm => absurd (show b ∈ ([] : List Addr) from hm) List.not_mem_nil, hok := hok, bare := .of_eq hg }
    refine codeAny_mono (F _ kin (keepN hns) [] s1 H ⟨[.ref a], []⟩ [.ref a] [.ref a] _ _ e0 (hbind s1 (.ref a)) (.cons rfl .nil) (hS H hO hq)) fun r s2 h => ?_
    match r, h with
    | .ok (.ret u), ⟨v, H2, os, bare, un, hok2, r2, q⟩ =>
      have q : v = .bl true := q
      subst q
      obtain rfl : u = Value.bool true := r2
      refine ⟨rfl, OldK.of_keep fun b o e1 => ?_, os, bare⟩
      cases z : H b with
      | none => exact un.keep b o e1 z (fun y => absurd (show b ∈ ([] : List Addr) from y) List.not_mem_nil) List.not_mem_nil
      | some u =>
        rcases hO b with y | ⟨ob, xs, y⟩
        · rw [z] at y; cases y
        · obtain ⟨k1, _⟩ := hok b _ y
          obtain ⟨k2, _⟩ := hok2 b _ (un.frzs b ob _ y)
          rw [e1] at k1
          cases k1
          exact k2
  cases hk : K.lookup a with
  | some o =>
    have e1 := KX a o hk
    rw [ha] at e1
    cases e1
    exact go (fun _ => none) (fun _ => Or.inl rfl) (Or.inr ⟨_, vs.toArray, _, hk, rfl, rfl, rfl, by rw [List.size_toArray, lv]; exact hl, by simpa using rv⟩) (fun b u z => by cases (show (none : Option HO) = some u from z)) (fun b z => absurd rfl z) fun z => absurd rfl z
  | none =>
    have at_ : ∀ b, b = a → (if b = a then some (HO.frz { cls := .type "list", data := .seq vs.toArray } (.lst (ns.map V.int))) else none) = some (HO.frz { cls := .type "list", data := .seq vs.toArray } (.lst (ns.map V.int))) := fun b e => if_pos e
    have not_ : ∀ b, b ≠ a → (if b = a then some (HO.frz { cls := .type "list", data := .seq vs.toArray } (.lst (ns.map V.int))) else none) = none := fun b e => if_neg e
    refine go (fun b => if b = a then some (HO.frz { cls := .type "list", data := .seq vs.toArray } (.lst (ns.map V.int))) else none) (fun b => ?_) (Or.inl (Or.inr ⟨{ cls := .type "list", data := .seq vs.toArray }, at_ a rfl⟩)) (fun b u z => ?_) (fun b z => ?_) fun _ => hk
    · rcases Classical.em (b = a) with hba | hba
      · exact Or.inr ⟨_, _, at_ b hba⟩
      · exact Or.inl (not_ b hba)
    · rcases Classical.em (b = a) with hba | hba
      · have z2 := (at_ b hba).symm.trans z
        cases z2
        subst hba
        exact ⟨ha, by rw [List.length_map]; exact hl, vs, _, rv, ha⟩
      · have z2 := (not_ b hba).symm.trans z
        cases z2
    · rcases Classical.em (b = a) with hba | hba
      · exact hba
      · exact absurd (not_ b hba) z
theorem walk_at {l : OpenLaw} {n : Nat} {q : Program} {loose : List Str} {XP : (Str → Option Value) → Heap → Prop} {YP : World → Heap → Prop} {d : DefRec} {x : Str} (hn : l.most = some n) (hn2 : n ≤ sizeLine) (hdf : d.params.defaults = [])
    (F : ∀ (w : World) (mg : Str → Option Value) (fa : Addr) (h : Heap), YP w h → h.Ns mainGlobals mg → mg d.name = some (.ref fa) → ∃ (K : Frag) (fd : FuncData) (S : Sp), K.In h ∧ (∀ (s : Shared) (u : Value), BindsTo s fd ⟨[u], []⟩ [(x, u)]) ∧
      (∀ (H : Hp) (a : Addr) (ns : List Int), ns.length ≤ n → Only H → SqL K H a (ns.map V.int) → S [.ref a] H (fun v _ => v = .bl true) fun _ _ _ => False) ∧ ∀ base : Heap, K.In base → base.Ns mainGlobals mg → FnAt callerA l.prog w K mg base fa fd [x] S) :
    WalkO q loose XP YP l.row.toRowW d [] (fun f vs => PySem.call f vs) := by
  refine Att.attach_call hn hdf fun w s0 s1 mg mb fa o pm cd doc a vs ns G Y ho hd hcd hmg hobj hints hlen hg => ?_
  obtain ⟨K, fd, S, KX, hb, hS, hF⟩ := F w mg fa _ Y G.T.g hmg
  exact law_at KX G.T.g G.T.b G.T.builtins G.T.nolimit hg hobj hints (Nat.le_trans hlen hn2) hF hb fun H hO hq => hS H a ns hlen hO hq
end DL

/-! DL24: more numbers, while as a function, lists that are popped, two changed arguments. -/
namespace DL
open PySem PySem.Spec PyProof.Rows L2 PySem.W
section
variable {X : Cx} {e a b c t tg : Expr} {es : List Expr} {ρ ρ1 ρ2 ρ3 : VE} {d x y z : D} {r : Var} {pos p : Pos} {i j n m : Nat} {k l : Int} {α S : Type} {enc : α → D} {rest body : List Stmt} {κ : KS}
/-! ### numbers -/
theorem ev_fdivW (ha : EvD X a ρ (.fz (.int k)) ρ1) (hb : EvD X b ρ1 (.fz (.int l)) ρ2) (hc : 0 < l ∧ l.natAbs.log2 < 9000) : EvD X (.BinOp a .FloorDiv b pos) ρ (.fz (.int (k / l))) ρ2 := ev_bin (pe_op op_fdivW) ha hb (od_I (C := CDivW) (gd := fun i j => .int (i / j)) hc fun _ => rfl)
theorem ev_modIN (ha : EvD X a ρ (.fz (.int k)) ρ1) (hb : EvD X b ρ1 (.fz (eN n)) ρ2) (h : 0 < n) : EvD X (.BinOp a .Mod b pos) ρ (.fz (eN (k % (n : Int)).toNat)) ρ2 := ev_as (ev_mod ha hb (by omega)) (by
  show Var.fz (.int _) = Var.fz (.int _)
  rw [Int.toNat_of_nonneg (Int.emod_nonneg _ (by omega))])
/-- the lowest one -/
def lowb (n : Nat) : Nat := n - (n &&& (n - 1))
theorem lowb_int (n : Nat) : Builtin.bitAnd (n : Int) (0 - (n : Int)) = ((lowb n : Nat) : Int) := by
  cases n with
  | zero => rfl
  | succ n =>
    have e : (0 - ((n + 1 : Nat) : Int)) = Builtin.bitNot ((n : Nat) : Int) := by
      show _ = -(n : Int) - 1
      omega
    rw [e, bitAnd_not, bitAnd_pp (by omega) (by omega), Int.toNat_natCast, Int.toNat_natCast]
    unfold lowb
    have : (n + 1) &&& (n + 1 - 1) ≤ n + 1 := Nat.and_le_left
    rw [Nat.add_sub_cancel] at this ⊢
    omega
theorem ev_lowb (ha : EvD X a ρ (.fz (eN n)) ρ1) (hb : EvD X b ρ1 (.fz (.int (0 - (n : Int)))) ρ2) : EvD X (.BinOp a .BitAnd b pos) ρ (.fz (eN (lowb n))) ρ2 := ev_as (ev_and ha hb) (by rw [lowb_int])
/-- a without b -/
def andn (a b : Nat) : Nat := a - (a &&& b)
theorem andn_int (n m : Nat) : Builtin.bitAnd (n : Int) (Builtin.bitNot (m : Int)) = ((andn n m : Nat) : Int) := by
  rw [bitAnd_not, bitAnd_pp (by omega) (by omega), Int.toNat_natCast, Int.toNat_natCast]
  unfold andn
  have : n &&& m ≤ n := Nat.and_le_left
  omega
theorem ev_andn (ha : EvD X a ρ (.fz (eN n)) ρ1) (hb : EvD X b ρ1 (.fz (eN m)) ρ2) {pos2 : Pos} : EvD X (.BinOp a .BitAnd (.UnaryOp .Invert b pos2) pos) ρ (.fz (eN (andn n m))) ρ2 := ev_as (ev_and ha (ev_inv hb)) (by rw [andn_int])
def bits (n : Nat) : Nat := if n = 0 then 0 else n.log2 + 1
theorem ev_bits {apos : Pos} (ha : EvD X a ρ (.fz (eN n)) ρ1) (hbase : attributeBase a "bit_length" X.env (eval a X.env) = eval a X.env := by rfl) (hline : (apos.endLine == pos.line) = true := by rfl) : EvD X (.Call (.Attribute a "bit_length" apos) [] [] pos) ρ (.fz (eN (bits n))) ρ1 := .mk fun σ B H Q I q =>
  wE.of (pe_bits pe_w hbase hline) (ha σ B H _ I fun v B1 H1 I1 g1 r1 => ⟨n, r1, q _ B1 H1 I1 g1 (by
    show V.int _ = V.int _
    unfold Builtin.Int.intBits bits
    by_cases h : n = 0
    · subst h; rfl
    · have : ((n : Int) == 0) = false := by simpa using h
      rw [this, if_neg h, Int.natAbs_natCast]; rfl)⟩)
theorem ev_max2N {q1 q2 : Expr} (hc : X.calm = true) (hg : Gl X "max") (hm : X.mg "max" = none) (ha : EvA X [q1, q2] ρ [eN i, eN j] ρ1) (he : starEach [q1, q2] X.env = (false, eval q1 X.env) :: starEach [q2] X.env := by first | exact star_cons rfl | rfl) (hpl : (backTo pos (starEach [q2] X.env)).any (·.1) = false := by first | exact plain_star rfl | rfl) : EvD X (.Call (.Name "max" p) [q1, q2] [] pos) ρ (.fz (eN (max i j))) ρ1 :=
  ev_B (he := he) (hpl := hpl) (call_max2 hc) hg hm (by decide +kernel) ha fun vs B H Q s r q => by
    obtain ⟨v, w, e1, r1, v2, w2, e2, r2, e3⟩ := r
    refine ⟨i, j, by rw [e1, e2, show v = V.int i from r1, show v2 = V.int j from r2, show w2 = [] from e3], q _ B H (Grw.refl s) ?_⟩
    show V.int _ = V.int _
    congr 1
    by_cases h : (j : Int) > i
    · rw [if_pos h]; omega
    · rw [if_neg h]; omega
theorem ev_min2N {q1 q2 : Expr} (hc : X.calm = true) (hg : Gl X "min") (hm : X.mg "min" = none) (ha : EvA X [q1, q2] ρ [eN i, eN j] ρ1) (he : starEach [q1, q2] X.env = (false, eval q1 X.env) :: starEach [q2] X.env := by first | exact star_cons rfl | rfl) (hpl : (backTo pos (starEach [q2] X.env)).any (·.1) = false := by first | exact plain_star rfl | rfl) : EvD X (.Call (.Name "min" p) [q1, q2] [] pos) ρ (.fz (eN (min i j))) ρ1 :=
  ev_B (he := he) (hpl := hpl) (call_min2 hc) hg hm (by decide +kernel) ha fun vs B H Q s r q => by
    obtain ⟨v, w, e1, r1, v2, w2, e2, r2, e3⟩ := r
    refine ⟨i, j, by rw [e1, e2, show v = V.int i from r1, show v2 = V.int j from r2, show w2 = [] from e3], q _ B H (Grw.refl s) ?_⟩
    show V.int _ = V.int _
    congr 1
    by_cases h : (j : Int) < i
    · rw [if_pos h]; omega
    · rw [if_neg h]; omega
theorem ev_intB {v : Bool} (hg : Gl X "int") (hm : X.mg "int" = none) (ha : EvA X [a] ρ [.bl v] ρ1) (he : starEach [a] X.env = (false, eval a X.env) :: starEach [] X.env := by first | exact star_cons rfl | rfl) (hpl : (backTo pos (starEach [] X.env)).any (·.1) = false := by first | exact plain_star rfl | rfl) : EvD X (.Call (.Name "int" p) [a] [] pos) ρ (.fz (eN v.toNat)) ρ1 :=
  ev_Ty (he := he) (hpl := hpl) call_int1 hg hm (by decide +kernel) ha fun vs B H Q s r q => by
    obtain ⟨u, e1, r1⟩ := r.one_of
    refine .inr ⟨v, by rw [e1, show u = V.bl v from r1], q _ B H (Grw.refl s) ?_⟩
    show V.int _ = V.int _
    cases v <;> rfl
/-! ### a read-only list -/
theorem ev_ixSN [Inhabited α] {l : List α} (ha : EvD X a ρ (.fz (.seq (l.map enc))) ρ1) (hb : EvD X b ρ1 (.fz (eN i)) ρ2) (h : i < l.length) (hs : PlainIx b := by exact fun _ _ => rfl) : EvD X (.Subscript a b pos) ρ (.fz (enc (nth l i))) ρ2 := ev_ixS ha hb (at_typed h) hs
theorem DatE.sq [DecidableEq α] {n : Nat} (h : DatE enc n) : DatE (fun l : List α => D.seq (l.map enc)) (n + 1) := ⟨(DatE.list h).pure, (DatE.list h).eqv, (DatE.list h).dep⟩
theorem cp_neSq [DecidableEq α] {n : Nat} {u v : List α} (G : DatE enc n) (hn : n + 1 ≤ 64) (hu : X.A.units + 64 < cLine) (ha : EvD X a ρ (.fz (.seq (u.map enc))) ρ1) (hb : EvD X b ρ1 (.fz (eLst enc v)) ρ2) : CpD X .NotEq a b ρ (.fz (.bl (!decide (u = v)))) ρ2 :=
  cp_as (cp_neD ha hb hu ((DatE.sq G).pure u) ((DatE.list G).pure v) (Nat.le_trans ((DatE.sq G).dep u) hn) (Nat.le_trans ((DatE.list G).dep v) hn)) (by rw [show (D.seq (u.map enc)).py = (eLst enc u).py from rfl, (DatE.list G).eqv])
/-! ### while -/
def whl (c : S → Bool) (f : S → S) : Nat → S → S
  | 0, s => s
  | n + 1, s => if c s = true then whl c f n (f s) else s
def okW (okc ok : S → Prop) (c : S → Bool) (f : S → S) : Nat → S → Prop
  | 0, s => okc s ∧ c s = false
  | n + 1, s => okc s ∧ (c s = true → ok s ∧ okW okc ok c f n (f s))
theorem least_ex (P : Nat → Prop) : ∀ n, P n → ∃ m, P m ∧ ∀ k, P k → m ≤ k := fun n => by
  induction n using Nat.strongRecOn with
  | _ n ih =>
    intro h
    by_cases q : ∃ k, k < n ∧ P k
    · obtain ⟨k, h1, h2⟩ := q
      exact ih k h1 h2
    · exact ⟨n, h, fun k hk => Nat.le_of_not_lt fun z => q ⟨k, z, hk⟩⟩
open Classical in
noncomputable def leastN (P : Nat → Prop) : Nat := if h : ∃ n, P n then (least_ex P h.choose h.choose_spec).choose else 0
theorem leastN_spec {P : Nat → Prop} {n : Nat} (h : P n) : P (leastN P) ∧ leastN P ≤ n := by
  have e : ∃ n, P n := ⟨n, h⟩
  have q := (least_ex P e.choose e.choose_spec).choose_spec
  unfold leastN
  rw [dif_pos e]
  exact ⟨q.1, q.2 n h⟩
theorem xs_while (c : S → Bool) (f : S → S) (n : Nat) (s0 : S) (okc ok : S → Prop) (E : S → VE) (Pm : S → Prop) (κ2 : S → KS) (hok : okW okc ok c f n s0) (ht : ∀ s, okc s → EvT X t (E s) (c s) (E s)) (hb : ∀ s, c s = true → ok s → XS X body (E s) (kL (E (f s)))) (hpm : Pm (whl c f n s0)) (k : ∀ v, Pm v → XS X rest (E v) (κ2 v))
    (hκ : κ = κ2 (whl c f n s0) := by rfl) (hρ : ρ = E s0 := by rfl) (hp : PassesOwn (model X.prog X.w) X.A X.env X.xe := by exact PassesOwn.never) : XS X (.While t body [] pos :: rest) ρ κ := by
  subst hκ
  let Pw : VE → Nat → Prop := fun ρ' m => ∃ s, ρ' = E s ∧ okW okc ok c f m s ∧ whl c f m s = whl c f n s0
  refine xs_cons (x1_while (fun ρ' => ∃ m, Pw ρ' m) (fun ρ' => leastN (Pw ρ')) ⟨n, s0, hρ, hok, rfl⟩ (fun ρ' ⟨m0, h0⟩ => ?_) hp)
  obtain ⟨h1, h2⟩ := leastN_spec h0
  generalize hm : leastN (Pw ρ') = m at h1 h2
  obtain ⟨s, e, o, w⟩ := h1
  subst e
  have oc : okc s := by cases m with
    | zero => exact o.1
    | succ m => exact o.1
  refine ⟨c s, E s, ht s oc, IoK.refl _, fun hc => ?_, fun hc => ?_⟩
  · cases m with
    | zero => rw [o.2] at hc; cases hc
    | succ m =>
      obtain ⟨o1, o2⟩ := o.2 hc
      have w2 : whl c f m (f s) = whl c f n s0 := by rw [← w]; show _ = if c s = true then _ else _; rw [if_pos hc]
      refine (hb s hc o1).mono ⟨fun ρ3 e3 => ?_, fun _ _ q => False.elim q, fun _ q => False.elim q, fun ρ3 e3 => ?_⟩
      all_goals
        have p : Pw ρ3 m := ⟨f s, e3, o2, w2⟩
        exact ⟨⟨m, p⟩, by have := (leastN_spec p).2; omega⟩
  · have w2 : s = whl c f n s0 := by
      rw [← w]
      cases m with
      | zero => rfl
      | succ m => show s = if c s = true then _ else s; rw [if_neg (by rw [hc]; exact Bool.false_ne_true)]
    show XS X rest (E s) (κ2 (whl c f n s0))
    rw [w2]; exact k _ hpm
/-! ### lists that change -/
theorem ev_popN [Inhabited α] {w : Bool} {l l1 : List α} {nm : Str} {px apos cpos : Pos} {i j : Nat} (hi0 : ρ[i]? = some (Var.own w (eLst enc l1))) (hN : X.N[i]? = some nm) (h : EvD X e ρ (.fz (eN j)) ρ1) (hi : ρ1[i]? = some (Var.own w (eLst enc l))) (hj : j < l.length) (hz : j < 2 ^ 62)
    (W : ∀ {to : TE} {t : TA}, PE X (.Name nm px) to → PA X [e] t → PE X (.Call (.Attribute (.Name nm px) "pop" apos) [e] [] cpos) (tBM X.K "list" rPopAt to t) := by exact fun h1 h2 => pe_bm PySem.F.plainAttrs_list PySem.F.slot_list_pop PySem.F.type_list_pop mt_popAt h1 h2)
    (hv : Vis X.env.scope nm := by first | exact Or.inl rfl | exact Or.inr (Or.inl rfl) | exact Or.inr (Or.inr rfl)) (hd : (nm == ("__debug__" : Str)) = false := by decide) (hcd : (nm == ("__classdict__" : Str)) = false := by decide) (hs : starEach [e] X.env = (false, eval e X.env) :: starEach [] X.env := by first | exact star_cons rfl | rfl) :
    EvD X (.Call (.Attribute (.Name nm px) "pop" apos) [e] [] cpos) ρ (.fz (enc (nth l j))) (ρ1.set i (Var.own w (eLst enc (l.eraseIdx j)))) := .mk fun σ B H Q I q => by
  obtain ⟨a, e1, o⟩ := var_own.mp (I.var i _ hi0)
  obtain ⟨_, vs0, h0, _⟩ := o
  refine wE.of (W (pe_var hN hv hd hcd) (pa_cons pe_w pa_nil hs)) ⟨.ref a, e1, .inl ⟨rfl, _, .inl (.inl h0)⟩, h σ B H _ I fun v B1 H1 I1 g1 r1 => ?_⟩
  obtain ⟨a2, e2, o2⟩ := var_own.mp (I1.var i _ hi)
  rw [e1] at e2
  cases e2
  obtain ⟨n2, vs2, h2, r2⟩ := o2
  have hl := r2.length
  rw [List.length_map] at hl
  obtain ⟨u, g2, g3⟩ := r2.get (i := j) (d := enc (nth l j)) (by rw [List.getElem?_map, List.getElem?_eq_getElem hj, nth_lt hj]; rfl)
  refine ⟨a, vs2, j, j, u, rfl, by rw [show v = V.int j from r1], h2, by omega, by omega, ?_, g2, ?_⟩
  · unfold seqIndex?
    simp
    omega
  · obtain ⟨I3, g4, io3⟩ := write_step (d' := eLst enc (l.eraseIdx j)) (o' := .lst (vs2.eraseIdx j)) I1 hi e1 n2 ⟨_, h2⟩ ⟨n2, _, upd_same, by
      have := r2.eraseIdx j
      have e3 : (l.map enc).eraseIdx j = (l.eraseIdx j).map enc := by rw [List.eraseIdx_eq_take_drop_succ, List.eraseIdx_eq_take_drop_succ, List.map_append, List.map_take, List.map_drop]
      rwa [e3] at this⟩
    exact q u B1 _ I3 (g1.trans g4) g3
/-- x[e], x an owned list -/
theorem ev_ixOw [Inhabited α] {w : Bool} {l : List α} {nm : Str} {px : Pos} {i j : Nat} (hi0 : ρ[i]? = some (Var.own w (eLst enc l))) (hN : X.N[i]? = some nm) (h : EvD X e ρ (.fz (eN j)) ρ1) (hi : ρ1[i]? = some (Var.own w (eLst enc l))) (hj : j < l.length)
    (hv : Vis X.env.scope nm := by first | exact Or.inl rfl | exact Or.inr (Or.inl rfl) | exact Or.inr (Or.inr rfl)) (hd : (nm == ("__debug__" : Str)) = false := by decide) (hcd : (nm == ("__classdict__" : Str)) = false := by decide) (hs : PlainIx e := by exact fun _ _ => rfl) : EvD X (.Subscript (.Name nm px) e pos) ρ (.fz (enc (nth l j))) ρ1 := .mk fun σ B H Q I q => by
  obtain ⟨a, e1, o⟩ := var_own.mp (I.var i _ hi0)
  refine wE.of (pe_ix ix_list (pe_var hN hv hd hcd) pe_w hs) ⟨.ref a, e1, h σ B H _ I fun v B1 H1 I1 g1 r1 => ?_⟩
  obtain ⟨a2, e2, o2⟩ := var_own.mp (I1.var i _ hi)
  rw [e1] at e2
  cases e2
  obtain ⟨n2, vs2, h2, r2⟩ := o2
  obtain ⟨u, g2, g3⟩ := r2.atI (at_typed (enc := enc) hj)
  exact ⟨a, vs2, j, u, rfl, r1, .inl (.inl h2), g2, q u B1 H1 I1 g1 g3⟩
end
end DL

/-! DL25: dicts keyed by whole numbers, their keys walked over, two changed arguments, keyword calls, loops that may return in a def that changes its first argument. -/
namespace DL
open PySem PySem.Spec PyProof.Rows L2 PySem.W
abbrev kN (n : Nat) : Key := Sum.inl (n : Int)
abbrev eDct {α : Type} (enc : α → D) (l : List (Nat × α)) : D := .dk (l.map fun p => kN p.1) (l.map fun p => enc p.2)
abbrev eDcz {α : Type} (enc : α → D) (l : List (Nat × α)) : D := .dz (l.map fun p => kN p.1) (l.map fun p => enc p.2)
def dlook {α : Type} (l : List (Nat × α)) (k : Nat) : Option α := (l.find? fun p => decide (p.1 = k)).map (·.2)
def dput {α : Type} (l : List (Nat × α)) (k : Nat) (v : α) : List (Nat × α) := if (l.any fun p => decide (p.1 = k)) = true then l.map (fun p => if p.1 = k then (p.1, v) else p) else l ++ [(k, v)]
theorem kN_eq {i j : Nat} : (kN i = kN j) ↔ i = j := ⟨fun h => by injection h with h; omega, fun h => by rw [h]⟩
section
variable {K : PySem.W.Frag} {B : Hp} {α : Type} {enc : α → D}
theorem zip_look : ∀ {l : List (Nat × α)} {ws : List V} {k : Nat}, RepL K B (l.map fun p => enc p.2) ws → (dlook l k = none → valV ((l.map fun p => kN p.1).zip ws) (kN k) = none) ∧ ∀ x, dlook l k = some x → ∃ u, valV ((l.map fun p => kN p.1).zip ws) (kN k) = some u ∧ Rep K B (enc x) u
  | [], ws, k, h => ⟨fun _ => rfl, fun x e => by cases e⟩
  | (i, y) :: l, ws, k, ⟨v, r, e, r1, r2⟩ => by
    subst e
    have ih := zip_look (k := k) r2
    rw [List.map_cons, List.zip_cons_cons]
    unfold dlook valV at ih ⊢
    rw [List.find?_cons, List.find?_cons]
    by_cases h : i = k
    · rw [decide_eq_true h, decide_eq_true (kN_eq.mpr h)]
      exact ⟨fun z => (by cases z), fun x e => (by cases e; exact ⟨v, rfl, r1⟩)⟩
    · rw [decide_eq_false h, decide_eq_false fun z => h (kN_eq.mp z)]
      exact ih
theorem zip_any : ∀ {l : List (Nat × α)} {ws : List V} {k : Nat}, l.length = ws.length → (((l.map fun p => kN p.1).zip ws).any fun kv => decide (kv.1 = kN k)) = l.any fun p => decide (p.1 = k)
  | [], ws, k, h => rfl
  | (i, y) :: l, [], k, h => by cases h
  | (i, y) :: l, w :: ws, k, h => by
    rw [List.map_cons, List.zip_cons_cons, List.any_cons, List.any_cons, zip_any (l := l) (by simpa using h)]
    congr 1
    exact decide_eq_decide.mpr kN_eq
theorem zip_rep {k : Nat} {x : α} {v : V} (hv : Rep K B (enc x) v) : ∀ {l : List (Nat × α)} {ws : List V}, RepL K B (l.map fun p => enc p.2) ws → ∃ us, RepL K B ((l.map fun p => if p.1 = k then (p.1, x) else p).map fun p => enc p.2) us ∧ ((l.map fun p => if p.1 = k then (p.1, x) else p).map fun p => kN p.1).zip us = ((l.map fun p => kN p.1).zip ws).map fun kv => if kv.1 = kN k then (kv.1, v) else kv
  | [], ws, h => ⟨[], rfl, rfl⟩
  | (i, y) :: l, ws, ⟨w, r, e, r1, r2⟩ => by
    subst e
    obtain ⟨us, h1, h2⟩ := zip_rep hv (l := l) r2
    by_cases h : i = k
    · refine ⟨v :: us, ?_, ?_⟩
      · simp only [List.map_cons, if_pos h]
        exact ⟨v, us, rfl, hv, h1⟩
      · simp only [List.map_cons, List.zip_cons_cons, if_pos h, if_pos (kN_eq.mpr h), h2]
    · refine ⟨w :: us, ?_, ?_⟩
      · simp only [List.map_cons, if_neg h]
        exact ⟨w, us, rfl, r1, h1⟩
      · simp only [List.map_cons, List.zip_cons_cons, if_neg h, if_neg fun z => h (kN_eq.mp z), h2]
theorem zip_put {k : Nat} {x : α} {v : V} (hv : Rep K B (enc x) v) {l : List (Nat × α)} {ws : List V} (h : RepL K B (l.map fun p => enc p.2) ws) : ∃ us, RepL K B ((dput l k x).map fun p => enc p.2) us ∧ ((dput l k x).map fun p => kN p.1).zip us = putK ((l.map fun p => kN p.1).zip ws) (kN k) v := by
  have hl := h.length
  rw [List.length_map] at hl
  unfold dput putK
  rw [zip_any hl.symm]
  by_cases c : (l.any fun p => decide (p.1 = k)) = true
  · rw [if_pos c, if_pos c]; exact zip_rep hv h
  · rw [if_neg c, if_neg c]
    refine ⟨ws ++ [v], ?_, ?_⟩
    · rw [List.map_append]; exact h.append (RepL.one hv)
    · rw [List.map_append, List.zip_append (by rw [List.length_map]; exact hl.symm)]; rfl
end
section
variable {X : Cx} {e a b c t tg iter : Expr} {es : List Expr} {ρ ρ1 ρ2 ρ3 : VE} {d x y z d0 d1 e0 e1 : D} {r : Var} {pos p : Pos} {i j n m k : Nat} {α : Type} {enc : α → D} {rest body : List Stmt} {κ : KS}
/-- x.get(e, None), x an owned dict -/
theorem ev_dgetO {w : Bool} {l : List (Nat × α)} {nm : Str} {px apos cpos q2 : Pos} {kk : Nat} (hu : X.A.units + 1 < cLine) (hi : ρ[i]? = some (Var.own w (eDct enc l))) (hN : X.N[i]? = some nm) (he : EvD X e ρ (.fz (eN k)) ρ) (m : M2 X (.Name nm px) "get" apos e (.Constant .none kk q2) cpos := by exact ⟨rfl, rfl, rfl, rfl⟩)
    (hv : Vis X.env.scope nm := by first | exact Or.inl rfl | exact Or.inr (Or.inl rfl) | exact Or.inr (Or.inr rfl)) (hd : (nm == ("__debug__" : Str)) = false := by decide) (hcd : (nm == ("__classdict__" : Str)) = false := by decide) :
    EvD X (.Call (.Attribute (.Name nm px) "get" apos) [e, .Constant .none kk q2] [] cpos) ρ (.fz (eO enc (dlook l k))) ρ := .mk fun σ B H Q I q => by
  obtain ⟨a, e1, o⟩ := var_own.mp (I.var i _ hi)
  obtain ⟨_, ws0, h0, _⟩ := o
  refine wE.of (pe_dget2 hu (pe_var hN hv hd hcd) pe_w pe_non m) ⟨.ref a, e1, a, rfl, .inl ⟨_, .inl h0⟩, he σ B H _ I fun v B1 H1 I1 g1 r1 => ?_⟩
  obtain ⟨a2, e2, o2⟩ := var_own.mp (I1.var i _ hi)
  rw [e1] at e2
  cases e2
  obtain ⟨n2, ws, h2, hl, r2⟩ := o2
  obtain ⟨z1, z2⟩ := zip_look (k := k) r2
  refine ⟨valV ((l.map fun p => kN p.1).zip ws) (kN k), .inl ⟨_, kN k, .inl h2, r1, rfl⟩, ?_⟩
  cases c : dlook l k with
  | none => rw [z1 c]; exact q _ B1 H1 I1 g1 (by rw [c]; rfl)
  | some x =>
    obtain ⟨u, u1, u2⟩ := z2 x c
    rw [u1]
    exact q u B1 H1 I1 g1 (by rw [c]; exact u2)
/-- x[e] = v, x an owned dict -/
theorem xs_dput {w : Bool} {l : List (Nat × α)} {vv : α} {nm : Str} {px sp : Pos} {ix value : Expr} (i : Nat) (ρ2 : VE) (hu : X.A.units + 1 < cLine) (hN : X.N[i]? = some nm) (he : EvD X value ρ (.fz (enc vv)) ρ1) (hi : ρ1[i]? = some (Var.own w (eDct enc l))) (hx : EvD X ix ρ1 (.fz (eN k)) ρ1) (hz : l.length ≤ 1000000)
    (kk : XS X rest ρ2 κ) (hρ : ρ1.set i (Var.own w (eDct enc (dput l k vv))) = ρ2 := by rfl) (hs : swapsWith value (some (.Subscript (.Name nm px) ix sp)) pos.line X.env = pure false := by rfl) (io : IoK ρ ρ1 := by first | exact IoK.refl _ | exact ioK_ok rfl)
    (hv : Vis X.env.scope nm := by first | exact Or.inl rfl | exact Or.inr (Or.inl rfl) | exact Or.inr (Or.inr rfl)) (hd : (nm == ("__debug__" : Str)) = false := by decide) (hcd : (nm == ("__classdict__" : Str)) = false := by decide) : XS X (.Assign [.Subscript (.Name nm px) ix sp] value pos :: rest) ρ κ := by
  refine xs_cons (.mk fun σ B H D I S => ?_)
  refine wS.of (ps_dput hu (pe_var hN hv hd hcd) pe_w pe_w hs) (he σ B H _ I fun v B1 H1 I1 g1 r1 => ?_)
  obtain ⟨a, e1, o⟩ := var_own.mp (I1.var i _ hi)
  refine ⟨.ref a, e1, hx σ B1 H1 _ I1 fun u B2 H2 I2 g2 r2 => ?_⟩
  obtain ⟨a2, e2, o2⟩ := var_own.mp (I2.var i _ hi)
  rw [e1] at e2
  cases e2
  obtain ⟨n0, ws, h0, hlen, rl⟩ := o2
  obtain ⟨us, z1, z2⟩ := zip_put (k := k) (r1.mono g2.bsub) rl
  refine ⟨a, upd H2 a (.dK (putK ((l.map fun p => kN p.1).zip ws) (kN k) v)), rfl, .inl ⟨_, kN k, h0, r2, ?_, rfl⟩, ?_⟩
  · rw [List.length_zip, List.length_map, sizeLine_eq]
    omega
  · have hl2 := z1.length
    rw [List.length_map] at hl2
    have ow : Own X.K B2 (upd H2 a (.dK (putK ((l.map fun p => kN p.1).zip ws) (kN k) v))) (eDct enc (dput l k vv)) a := ⟨n0, us, by rw [upd_same, ← z2], by rw [List.length_map]; exact hl2.symm, z1⟩
    obtain ⟨I3, g3, io3⟩ := write_step (o' := .dK (putK ((l.map fun p => kN p.1).zip ws) (kN k) v)) I2 hi e1 n0 ⟨_, h0⟩ ow
    exact S.nx σ _ B2 _ (by rw [hρ]; exact kk) I3 (go_s ((g1.trans g2).trans g3) (io.trans io3))
/-- {e: v}: a new dict of one pair -/
theorem ev_dict1 {l : List (Nat × α)} {v : Expr} {x : α} {hh : Nat} {q1 : Pos} (he : EvD X v ρ (.fz (enc x)) ρ1) : EvD X (.Dict [some (.Constant (.int (n : Int)) hh q1)] [v] pos) ρ (.ow (eDct enc [(n, x)])) ρ1 := by
  refine ev_dict (ks := [kN n]) (ds := [enc x]) ?_ (List.nodup_cons.mpr ⟨List.not_mem_nil, List.nodup_nil⟩) rfl (Nat.succ_le_of_lt (by decide)) (List.cons_ne_nil _ _) (by show 1 ≤ 15; decide)
  refine ⟨_, pps_cons pe_int pe_w pps_nil, fun σ B H Q I q => ?_⟩
  show wE X v σ H _
  exact he σ B H _ I fun u B1 H1 I1 g1 r1 => q [u] B1 H1 I1 g1 rfl ⟨u, [], rfl, r1, rfl⟩
/-! ### an owned dict that stays as it is from here on -/
theorem xs_lock {ks : List Key} {l : List D} {sts : List Stmt} (i : Nat) (hi : ρ[i]? = some (.ow (.dk ks l))) (h : XS X sts (ρ.set i (.fz (.dz ks l))) κ) : XS X sts ρ κ := .mk fun σ B H D I S => by
  obtain ⟨a, e1, n0, ws, h0, hl, rl⟩ := I.var i _ hi
  intro pins st0 II
  obtain ⟨od, I2⟩ := II.lock h0 trivial
  have rtA : Rt σ ρ a := ⟨i, by rw [hi]; rfl, e1⟩
  have hil := lt_of_get hi
  let o : HO := .frz od (.dK (ks.zip ws))
  have sB : Same B (upd B a o) := same_upd n0
  have isow : ∀ {j : Nat}, isOw (ρ.set i (Var.fz (.dz ks l)))[j]? = true → j ≠ i ∧ isOw ρ[j]? = true := fun {j} h => by
    rcases isOw_set h with ⟨_, z⟩ | z
    · cases z
    · exact z
  have I3 : EnvOk X.K (upd B a o) (upd H a o) σ (ρ.set i (Var.fz (.dz ks l))) := by
    refine ⟨fun b x e => ?_, by rw [List.length_set]; exact I.len, fun j s e => ?_, fun j k b hjk h1 h2 => I.sep j k b hjk (isow h1).2 (isow h2).2⟩
    · by_cases z : b = a
      · subst z; rw [upd_same] at e ⊢; exact e
      · rw [upd_ne z] at e ⊢; exact I.sub _ _ e
    · by_cases hj : j = i
      · subst hj
        rw [List.getElem?_set_self hil] at e
        cases e
        exact ⟨.ref a, e1, a, od, ws, rfl, upd_same, hl, rl.mono sB⟩
      · rw [List.getElem?_set_ne (Ne.symm hj)] at e
        have qv := I.var j s e
        have ownk : ∀ {d : DL.D} {b : Addr}, isOw (some s) = true → σ[j]? = some (some (.ref b)) → Own X.K B H d b → Own X.K (upd B a o) (upd H a o) d b := fun {d b} wr e2 ob => by
          have ne : b ≠ a := fun z => I.sep j i a hj (by rw [e]; exact wr) (by rw [hi]; rfl) (by rw [← z]; exact e2) e1
          exact ob.mono sB (by rw [upd_ne ne]; exact ob.none) fun x hx => by rw [upd_ne ne]; exact hx
        cases s with
        | un => trivial
        | fz d => obtain ⟨v, e2, rp⟩ := qv; exact ⟨v, e2, rp.mono sB⟩
        | ow d => obtain ⟨b, e2, ob⟩ := qv; exact ⟨b, e2, ownk rfl e2 ob⟩
        | io d => obtain ⟨b, e2, ob⟩ := qv; exact ⟨b, e2, ownk rfl e2 ob⟩
  have g3 : GoS σ ρ B H σ (ρ.set i (Var.fz (.dz ks l))) (upd B a o) (upd H a o) := go_s ⟨sB, fun b x hb n => by rw [upd_ne (show b ≠ a from fun z => n (by rw [z]; exact rtA))]; exact hb, fun b x hb => by
      by_cases z : b = a
      · subst z; exact ⟨_, upd_same⟩
      · exact ⟨x, by rw [upd_ne z]; exact hb⟩, fun b x hb => by
      by_cases z : b = a
      · subst z; exact .inr (.inr rtA)
      · rw [upd_ne z] at hb; exact .inl hb, fun b ⟨j, h1, h2⟩ => .inl ⟨j, (isow h1).2, h2⟩⟩ fun j hj => by
    by_cases z : j = i
    · subst z; rw [hi] at hj; cases hj
    · rw [List.getElem?_set_ne (Ne.symm z)]; exact hj
  exact h σ (upd B a o) (upd H a o) D I3 (S.go g3) pins st0 I2
theorem itok_keys {K : PySem.W.Frag} {B : Hp} {a : Addr} {od : Obj} {l : List (Nat × α)} {ws : List V} (h : B a = some (.frz od (.dK ((l.map fun p => kN p.1).zip ws)))) (hl : l.length = ws.length) : ItOk K (Itk a od ((l.map fun p => kN p.1).zip ws)) B ((l.map (·.1)).map eN) := by
  have hz : ((l.map fun p => kN p.1).zip ws).length = l.length := by rw [List.length_zip, List.length_map]; omega
  refine ⟨fun B' H' i s1 s2 hi => ⟨s2 _ _ (s1 _ _ h), by rw [hz]; simpa using hi⟩, fun B' H' i s1 s2 hi => ⟨s2 _ _ (s1 _ _ h), by rw [hz]; simp at hi; omega⟩, fun B' H' i d v H2 s1 s2 hd y => ?_⟩
  obtain ⟨e, k, u, g1, g2⟩ := y
  subst e
  refine ⟨B', Grw.refl s2, ?_⟩
  rw [List.getElem?_map, List.getElem?_map] at hd
  rw [List.getElem?_zip_eq_some, List.getElem?_map] at g1
  obtain ⟨g1, _⟩ := g1
  cases q : l[i]? with
  | none => rw [q] at hd; cases hd
  | some p =>
    rw [q] at hd g1
    cases hd
    cases g1
    exact g2
theorem ei_keys {l : List (Nat × α)} (h : EvD X iter ρ (.fz (eDcz enc l)) ρ1) : EvI X tg iter ρ ((l.map (·.1)).map eN) ρ1 := .mk fun σ B H R I q => wI.of (pi_keys pe_w) (h σ B H _ I fun v B' H' I' g r => by
  obtain ⟨a, od, ws, e, hb, hl, rl⟩ := r
  rw [List.length_map] at hl
  exact ⟨a, od, e, .inl ⟨_, I'.sub _ _ hb, q _ B' H' I' g (itok_keys hb hl)⟩⟩)
/-! ### range(1, n, 2) -/
def odds (n : Nat) : List Nat := (List.range (n / 2)).map fun i => 1 + i * 2
theorem rgc_two {n : Nat} (hn : n < 2 ^ 61) : RgC 1 (n : Int) 2 (n / 2) := by
  have e : Builtin.Range.rangeSize 1 (n : Int) 2 = ((n / 2 : Nat) : Int) := by
    unfold Builtin.Range.rangeSize
    rw [if_pos (by decide)]
    split <;> omega
  refine ⟨by decide, by decide, ?_, e⟩
  have fit : ∀ i : Int, -(2 ^ 63) ≤ i → i < 2 ^ 63 → Builtin.Range.rangeFitsLong i = true := fun i h1 h2 => by
    unfold Builtin.Range.rangeFitsLong
    rw [decide_eq_true h1, decide_eq_true h2]; rfl
  unfold Builtin.Range.small
  rw [e]
  simp only [fit 1 (by decide) (by decide), fit (n : Int) (by omega) (by omega), fit 2 (by decide) (by decide), fit ((n / 2 : Nat) : Int) (by omega) (by omega), fit ((n : Int) + (2 - 1)) (by omega) (by omega), show ((2 : Int) > 0) = True from eq_true (by decide), if_true, Bool.or_true, Bool.and_true, Bool.true_and]
theorem itok_odds {K : PySem.W.Frag} {B : Hp} {n : Nat} : ItOk K (Itc 1 2 (n / 2)) B ((odds n).map eN) := by
  have hl : ((odds n).map eN).length = n / 2 := by simp [odds]
  refine ⟨fun B' H' i s1 s2 hi => by rw [hl] at hi; exact hi, fun B' H' i s1 s2 hi => by rw [hl] at hi; exact Nat.le_of_eq hi, fun B' H' i d v H2 s1 s2 hd y => ?_⟩
  obtain ⟨e, y⟩ := y
  subst e
  have hi : i < n / 2 := by rw [← hl]; exact (List.getElem?_eq_some_iff.mp hd).1
  refine ⟨B', Grw.refl s2, ?_⟩
  have e2 : ((odds n).map eN)[i]? = some (eN (1 + i * 2)) := by simp [odds, hi]
  rw [e2] at hd
  cases hd
  show v = V.int _
  rw [y]
  congr 1
theorem ei_odds {x1 x2 x3 : Expr} (hg : Gl X "range") (hm : X.mg "range" = none) (h : EvA X [x1, x2, x3] ρ [.int 1, eN n, .int 2] ρ1) (hn : n < 2 ^ 61) (hs : starEach [x1, x2, x3] X.env = (false, eval x1 X.env) :: starEach [x2, x3] X.env := by first | exact star_cons rfl | rfl) (hpl : (backTo pos (starEach [x2, x3] X.env)).any (·.1) = false := by first | exact plain_star rfl | rfl) :
    EvI X tg (.Call (.Name "range" p) [x1, x2, x3] [] pos) ρ ((odds n).map eN) ρ1 := .mk fun σ B H R I q => by
  refine wI.of (pi_range3 hg hm pa_w hs hpl) (h σ B H _ I fun vs B' H' I' g r => ?_)
  obtain ⟨v, w, e, r1, v2, w2, e2, r2, v3, w3, e3, r3, e4⟩ := r
  exact ⟨1, n, 2, n / 2, by rw [e, e2, e3, show v = V.int 1 from r1, show v2 = V.int n from r2, show v3 = V.int 2 from r3, show w3 = [] from e4], rgc_two hn, q _ B' H' I' g itok_odds⟩
/-! ### loops that may return, where the first parameter is the caller's -/
abbrev kBI {S V T : Type} (t : Ct S (V × T)) (E : S → VE) (enc : V → Var) (encS : T → D) : KS :=
  { nx := fun ρ => ∃ s, t = .go s ∧ ρ = E s, ct := fun ρ => ∃ s, t = .go s ∧ ρ = E s, bk := fun ρ => ∃ s, t = .bk s ∧ ρ = E s, rt := fun r' ρ => ∃ v, t = .rt v ∧ r' = enc v.1 ∧ ρ[0]? = some (.io (encS v.2)) }
theorem xs_forI {S V T : Type} {js : List Nat} (l : List α) (enc : α → D) (E : S → VE) (f : S → α → Ct S (V × T)) (s0 : S) (ok : S → α → Prop) (encR : V → Var) (encS : T → D) (k : S → V × T) (hi : EvI X tg iter ρ (l.map enc) ρ1) (hok : okC ok f l s0) (hs : ∀ s x, x ∈ l → ok s x → XG X tg js (enc x) (E s) fun ρ2 => XS X body ρ2 (kBI (f s x) E encR encS))
    (hk : ∀ s, loopC f l s0 = .go s → XS X rest (E s) (kI encR encS (k s))) (hρ : ρ1 = E s0 := by rfl) (hp : PassesOwn (model X.prog X.w) X.A X.env X.xe := by exact PassesOwn.never) (hc : X.calm = true := by rfl) (io : IoK ρ ρ1 := by first | exact IoK.refl _ | exact ioK_ok rfl) (hfs : ∀ x, foldedSetIterable iter X.env x = pure x := by intro _; rfl) :
    XS X (.For tg iter body [] pos :: rest) ρ (kI encR encS ((loopC f l s0).out k)) :=
  xs_cons (x1_forC l enc E f s0 ok (fun v r ρ => r = encR v.1 ∧ ρ[0]? = some (.io (encS v.2))) hi hok hs (fun s e => by rw [e]; exact hk s e) (fun v r ρ e q => by rw [e]; exact q) hρ hp hc io hfs)
/-! ### f(k = v) -/
theorem pe_callN0 {CX : CXT} {f : Addr} {fd : FuncData} {ps ks : List Str} {sp : Sp} {kws : List Keyword} {tk : TA} {E : XK} {x : Str} {g : List Value → List Value → List Value} {gV : List V → List V → List V} (F : FnOk X.prog X.w X.K X.mg X.base CX k f fd ps sp) (hr : Room k X.A) (hg : Gl X x) (hm : X.mg x = some (.ref f)) (hk : PySem.W.keepIn X.K (.ref f) = true) (hb : KBn X.K fd ps 0 ks g gV) (hx : Passes CX X E) (hkw : PK X kws tk)
    (hall : (backToKw pos (keywordEach kws X.env)).all (·.1.isSome) = true := by rfl) (hks : (backToKw pos (keywordEach kws X.env)).filterMap (·.1) = ks := by rfl) (hdb : (x == ("__debug__" : Str)) = false := by decide) (hpl : ((backTo pos (starEach [] X.env)).any (·.1) || (backToKw pos (keywordEach kws X.env)).any (·.1.isNone)) = false := by rfl) :
    PE X (.Call (.Name x p) [] kws pos) (tCallN 0 ks.length sp gV E tNil tk) := by
  refine ⟨fun pins s σ H Q I h => wpAny_Call_Name_kw (ld_glob I hg hm ?_ hdb)⟩
  refine PySem.W.callWith_KW0 (h₀ := X.base) I.ok.mod.kin hk hall (thn (hkw.run pos pins s σ H _ I h) fun ws s2 ⟨zs, H2, I2, rz, l1, l2, q2⟩ => ⟨I2.kIn, ?_⟩) hpl
  rw [hks]
  exact run_fnN (us := []) (vs := []) F hr hb hx I2 .nil rz rfl l2 q2
end
end DL

/-! DL26: two arguments that are their caller's own. -/
namespace DL
open PySem PySem.Spec PyProof.Rows L2 PySem.W
section
variable {X : Cx} {e : Expr} {ρ ρ1 : VE} {d0 d1 e0 e1 : D} {r : Var} {pos p : Pos} {i j k : Nat} {S : FS} {ps : List Str}
theorem EnvOk.io2 {K : PySem.W.Frag} {B H : Hp} {a b : Addr} (s : Same B H) (o : Own K B H d0 a) (o2 : Own K B H e0 b) (ne : a ≠ b) : EnvOk K B H ([V.ref a, V.ref b].map some) [.io d0, .io e0] := by
  refine ⟨s, rfl, fun i q e => ?_, fun i j c hij h1 h2 h3 h4 => ?_⟩
  · match i, e with
    | 0, e => cases e; exact ⟨a, rfl, o⟩
    | 1, e => cases e; exact ⟨b, rfl, o2⟩
  · match i, j, h3, h4, hij with
    | 0, 1, h3, h4, _ => cases h3; cases h4; exact ne rfl
    | 1, 0, h3, h4, _ => cases h3; cases h4; exact ne rfl
    | 0, 0, _, _, hij => exact hij rfl
    | 1, 1, _, _, hij => exact hij rfl
    | _ + 2, _, h3, _, _ => cases h3
    | 0, _ + 2, _, h4, _ => cases h4
    | 1, _ + 2, _, h4, _ => cases h4
theorem rt_io2 {a b c : Addr} (h : Rt ([V.ref a, V.ref b].map some) [.io d0, .io e0] c) : c = a ∨ c = b := by
  obtain ⟨i, h1, h2⟩ := h
  match i, h2 with
  | 0, h2 => cases h2; exact .inl rfl
  | 1, h2 => cases h2; exact .inr rfl
/-- f(x, y), both owned names; y stays as it is -/
theorem ev_callIo2 {w w2 : Bool} {nm nm2 x : Str} {pn pn2 : Pos} (F : Fc X.prog X.w X.K X.mg X.base x ps k S) (hr : Room k X.A) (hg : Gl X x) (hi : ρ[i]? = some (Var.own w d0)) (hN : X.N[i]? = some nm) (hj : ρ[j]? = some (Var.own w2 e0)) (hN2 : X.N[j]? = some nm2) (hij : i ≠ j) (hs : S [.io d0, .io e0] r [.io d1, .io e0])
    (hv : Vis X.env.scope nm := by first | exact Or.inl rfl | exact Or.inr (Or.inl rfl) | exact Or.inr (Or.inr rfl)) (hd : (nm == ("__debug__" : Str)) = false := by decide) (hcd : (nm == ("__classdict__" : Str)) = false := by decide)
    (hv2 : Vis X.env.scope nm2 := by first | exact Or.inl rfl | exact Or.inr (Or.inl rfl) | exact Or.inr (Or.inr rfl)) (hd2 : (nm2 == ("__debug__" : Str)) = false := by decide) (hcd2 : (nm2 == ("__classdict__" : Str)) = false := by decide) (hdb : (x == ("__debug__" : Str)) = false := by decide)
    (he : starEach [.Name nm pn, .Name nm2 pn2] X.env = (false, eval (.Name nm pn) X.env) :: starEach [.Name nm2 pn2] X.env := by first | exact star_cons rfl | rfl) (he2 : starEach [.Name nm2 pn2] X.env = (false, eval (.Name nm2 pn2) X.env) :: starEach [] X.env := by first | exact star_cons rfl | rfl)
    (hpl : (backTo pos (starEach [.Name nm2 pn2] X.env)).any (·.1) = false := by first | exact plain_star rfl | rfl) : EvD X (.Call (.Name x p) [.Name nm pn, .Name nm2 pn2] [] pos) ρ r (ρ.set i (Var.own w d1)) := .mk fun σ B H Q I q => by
  obtain ⟨f, fd, F, hm, hk, hb⟩ := F
  obtain ⟨a, a1, o⟩ := var_own.mp (I.var i _ hi)
  obtain ⟨b, b1, o2⟩ := var_own.mp (I.var j _ hj)
  have ne : a ≠ b := fun z => I.sep i j a hij (by rw [hi]; exact own_ow) (by rw [hj]; exact own_ow) a1 (by rw [z]; exact b1)
  refine wE.of (pe_call F hr hg hm hk hb .nil pass0 (pa_cons (pe_var hN hv hd hcd) (pa_cons (pe_var hN2 hv2 hd2 hcd2) pa_nil he2) he) hdb he hpl) ⟨.ref a, a1, .ref b, b1, ?_⟩
  refine ⟨B, _, r, _, EnvOk.io2 I.sub o o2 ne, hs, fun v B2 H2 I2 g rc => ?_⟩
  have hil := lt_of_get hi
  have rtA : Rt σ ρ a := ⟨i, by rw [hi]; exact own_ow, a1⟩
  have rtB : Rt σ ρ b := ⟨j, by rw [hj]; exact own_ow, b1⟩
  obtain ⟨a3, a4, o3⟩ := I2.var 0 (.io d1) rfl
  have ea : a3 = a := by cases a4; rfl
  subst ea
  obtain ⟨b3, b4, o4⟩ := I2.var 1 (.io e0) rfl
  have eb : b3 = b := by cases b4; rfl
  subst eb
  have ow_iff : ∀ {l : Nat}, isOw (ρ.set i (Var.own w d1))[l]? = true → isOw ρ[l]? = true := fun {l} h => by
    rcases isOw_set h with ⟨z, _⟩ | z
    · subst z; rw [hi]; exact own_ow
    · exact z.2
  have keep : ∀ c u, c ≠ a3 → c ≠ b3 → H c = some u → H2 c = some u := fun c u n1 n2 h => g.keep c u h fun z => (rt_io2 z).elim n1 n2
  have nw : ∀ c u, B2 c = some u → B c = some u ∨ H c = none ∨ c = a3 ∨ c = b3 := fun c u h => by
    rcases g.new c u h with z | z | z
    · exact .inl z
    · exact .inr (.inl z)
    · exact .inr (.inr (rt_io2 z))
  have I3 : EnvOk X.K B2 H2 σ (ρ.set i (Var.own w d1)) := by
    refine ⟨I2.sub, by rw [List.length_set]; exact I.len, fun l s e => ?_, fun l m c hlm h1 h2 => I.sep l m c hlm (ow_iff h1) (ow_iff h2)⟩
    by_cases hl : l = i
    · subst hl
      rw [List.getElem?_set_self hil] at e
      cases e
      exact var_own.mpr ⟨a3, a1, o3⟩
    · rw [List.getElem?_set_ne (Ne.symm hl)] at e
      by_cases hl2 : l = j
      · subst hl2
        rw [hj] at e
        cases e
        exact var_own.mpr ⟨b3, b1, o4⟩
      · have qv := I.var l s e
        have ownk : ∀ {d : D} {c : Addr}, isOw (some s) = true → σ[l]? = some (some (.ref c)) → Own X.K B H d c → Own X.K B2 H2 d c := fun {d c} wr c1 oc => by
          have n1 : c ≠ a3 := fun z => I.sep l i a3 hl (by rw [e]; exact wr) (by rw [hi]; exact own_ow) (by rw [← z]; exact c1) a1
          have n2 : c ≠ b3 := fun z => I.sep l j b3 hl2 (by rw [e]; exact wr) (by rw [hj]; exact own_ow) (by rw [← z]; exact c1) b1
          obtain ⟨ob2, ho⟩ := oc.some
          refine oc.mono g.bsub ?_ fun u h => keep c u n1 n2 h
          cases z : B2 c with
          | none => rfl
          | some u =>
            rcases nw c u z with y | y | y | y
            · rw [oc.none] at y; cases y
            · rw [ho] at y; cases y
            · exact (n1 y).elim
            · exact (n2 y).elim
        cases s with
        | un => trivial
        | fz d => obtain ⟨v, c1, rp⟩ := qv; exact ⟨v, c1, rp.mono g.bsub⟩
        | ow d => obtain ⟨c, c1, oc⟩ := qv; exact ⟨c, c1, ownk rfl c1 oc⟩
        | io d => obtain ⟨c, c1, oc⟩ := qv; exact ⟨c, c1, ownk rfl c1 oc⟩
  have g3 : Go (Rt σ ρ) B H (Rt σ (ρ.set i (Var.own w d1))) B2 H2 := ⟨g.bsub, fun c u h n => keep c u (fun z => n (by rw [z]; exact rtA)) (fun z => n (by rw [z]; exact rtB)) h, g.there, fun c u h => by
    rcases nw c u h with z | z | z | z
    · exact .inl z
    · exact .inr (.inl z)
    · exact .inr (.inr (by rw [z]; exact rtA))
    · exact .inr (.inr (by rw [z]; exact rtB)), fun c ⟨l, h1, h2⟩ => .inl ⟨l, ow_iff h1, h2⟩⟩
  refine q v B2 H2 I3 g3 ?_
  cases r with
  | un => exact rc
  | fz d => exact rc
  | io d => exact rc
  | ow d =>
    obtain ⟨c, c1, oc, n⟩ := rc
    refine ⟨c, c1, oc, fun z => ?_, n⟩
    obtain ⟨l, h1, h2⟩ := z
    obtain ⟨u, h3⟩ := I.rt ⟨l, ow_iff h1, h2⟩
    rw [n] at h3
    cases h3
/-- a def that changes its first argument, its second one is its caller's too and stays -/
def FI2 (R : D → D → Var → D → Prop) : FS := fun as r as' => ∃ d0 e0 d1, R d0 e0 r d1 ∧ as = [.io d0, .io e0] ∧ as' = [.io d1, .io e0]
theorem FI2.par {R : D → D → Var → D → Prop} : ∀ as r as', FI2 R as r as' → parF as = true ∧ as'.length = as.length ∧ as.length = 2 := fun as r as' ⟨d0, e0, d1, _, e1, e2⟩ => by
  subst e1 e2; exact ⟨rfl, rfl, rfl⟩
theorem XS.ofI2 {sts : List Stmt} {V S : Type} {enc : V → Var} {encS : S → D} {v : V × S} (h : XS X sts ρ { nx := fun ρ => enc v.1 = .fz .non ∧ ρ[0]? = some (.io (encS v.2)) ∧ ρ[1]? = some (.io e0), rt := fun r' ρ => r' = enc v.1 ∧ ρ[0]? = some (.io (encS v.2)) ∧ ρ[1]? = some (.io e0) }) :
    XS X sts ρ { nx := fun ρ => enc v.1 = .fz .non ∧ ParOk [.io d0, .io e0] [.io (encS v.2), .io e0] ρ, rt := fun r' ρ => r' = enc v.1 ∧ ParOk [.io d0, .io e0] [.io (encS v.2), .io e0] ρ } := by
  have p : ∀ ρ : VE, ρ[0]? = some (.io (encS v.2)) → ρ[1]? = some (.io e0) → ParOk [.io d0, .io e0] [.io (encS v.2), .io e0] ρ := fun ρ h0 h1 i hi => by
    match i, hi with
    | 0, _ => exact ⟨fun _ => ⟨h0.symm, rfl⟩, fun z => by cases z⟩
    | 1, _ => exact ⟨fun _ => ⟨h1.symm, rfl⟩, fun z => by cases z⟩
    | n + 2, hi => exact absurd hi (by simp)
  exact h.mono ⟨fun ρ q => ⟨q.1, p ρ q.2.1 q.2.2⟩, fun _ ρ q => ⟨q.1, p ρ q.2.1 q.2.2⟩, fun _ q => q, fun _ q => q⟩
end
end DL

/-! DL27: branches that change things, values that are not None, keyword calls of one name. -/
namespace DL
open PySem PySem.Spec PyProof.Rows L2 PySem.W
section
variable {X : Cx} {e a b t : Expr} {es : List Expr} {ρ ρ1 ρ2 : VE} {d x y z : D} {r : Var} {pos p : Pos} {i j n m k : Nat} {α S : Type} {enc : α → D} {sts : List Stmt} {κ : KS} {c : Bool}
theorem EvD.env (h : EvD X e ρ r ρ1) (q : ρ1 = ρ2) : EvD X e ρ r ρ2 := q ▸ h
theorem ev_ifIO {encV : α → Var} {va vb : α} {sa sb : S} (E : S → VE) (h : EvT X t ρ c ρ1) (h1 : c = true → EvD X a ρ1 (encV va) (E sa)) (h2 : c = false → EvD X b ρ1 (encV vb) (E sb)) : EvD X (.IfExp t a b pos) ρ (encV (if c = true then va else vb)) (E (if c = true then sa else sb)) :=
  ev_if h (fun z => by rw [if_pos z, if_pos z]; exact h1 z) (fun z => by rw [if_neg (by rw [z]; exact Bool.false_ne_true), if_neg (by rw [z]; exact Bool.false_ne_true)]; exact h2 z)
theorem set_get {ρ : VE} {i : Nat} {r : Var} (h : ρ[i]? = some r) : ρ.set i r = ρ := by
  refine List.ext_getElem? fun j => ?_
  by_cases e : j = i
  · subst e; rw [List.getElem?_set_self (lt_of_get h), h]
  · rw [List.getElem?_set_ne (Ne.symm e)]
theorem xs_nar [Inhabited α] {w : Option α} (i : Nat) (hi : ρ[i]? = some (.fz (eO enc w))) (h : w.isSome = true) (k : XS X sts (ρ.set i (.fz (enc (w.getD default)))) κ) : XS X sts ρ κ := by
  cases w with
  | none => cases h
  | some v => rw [show ρ.set i (.fz (enc ((some v).getD default))) = ρ from set_get hi] at k; exact k
theorem xs_wid [Inhabited α] {w : Option α} (i : Nat) (hi : ρ[i]? = some (.fz (enc (w.getD default)))) (h : w.isSome = true) (k : XS X sts (ρ.set i (.fz (eO enc w))) κ) : XS X sts ρ κ := by
  cases w with
  | none => cases h
  | some v => rw [show ρ.set i (.fz (eO enc (some v))) = ρ from set_get hi] at k; exact k
theorem odEqE [DecidableEq α] {n : Nat} {u v : α} (G : DatE enc n) (hn : n ≤ 64) : OpD X (rEqD X.K) (enc u) (enc v) (.fz (.bl (decide (u = v)))) := fun x y B H Q s hx hy q =>
  ⟨(enc u).py, (enc v).py, Rep.dp (G.pure u) (hx.mono s), Rep.dp (G.pure v) (hy.mono s), by
    unfold SeqAt.shaped
    rw [canLay_py (G.pure u), decide_eq_true (Nat.le_trans (G.dep u) hn)]; rfl, by
    unfold SeqAt.shaped
    rw [canLay_py (G.pure v), decide_eq_true (Nat.le_trans (G.dep v) hn)]; rfl, by
    rw [G.eqv]
    exact q _ B H (Grw.refl s) rfl⟩
end
/-- a def of one parameter, called by its parameter's name -/
def Fk (P : Program) (w : World) (K : PySem.W.Frag) (mg : Str → Option Value) (base : Heap) (x : Str) (q : Str) (k : Nat) (S : FS) : Prop :=
  ∃ f fd, FnOk P w K mg base CX0 k f fd [q] (spF K S) ∧ mg x = some (.ref f) ∧ PySem.W.keepIn K (.ref f) = true ∧ KBn K fd [q] 0 [q] (fun _ ws => ws) (fun _ zs => zs)
theorem kw1 {K : PySem.W.Frag} {x qual q : Str} {params : Arguments} {body : List Stmt} {scope : Scope} {f : Addr} {fd : FuncData} (F : FunD K x qual params body scope [] [] f fd)
    (h : ∀ (kV doc pm : Value) (an : Option Addr) (cdv ct u : Value), bindArgs (PySem.W.fnOf x qual params body scope .none kV doc pm an cdv ct) ⟨[], [(q, u)]⟩ = pure [(q, u)]) : KBn K fd [q] 0 [q] (fun _ ws => ws) (fun _ zs => zs) := by
  obtain ⟨oc, od, dV, kV, doc, pm, an, cdv, ct, osl, rfl, lk, hcd, hD, hK⟩ := F.ex
  rcases hD with ⟨_, rfl⟩ | ⟨e, _⟩
  · refine ⟨fun s us ws X l1 l2 => ?_, fun _ r => r⟩
    have e1 : us = [] := List.eq_nil_of_length_eq_zero l1
    subst e1
    match ws, l2 with
    | [u], _ => exact BindsTo.of_looks fun M => PySem.W.Looks.of_pure (h kV doc pm an cdv ct u)
  · exact absurd rfl e
section
variable {X : Cx} {e : Expr} {ρ ρ1 : VE} {d : D} {r : Var} {pos p kp : Pos} {k : Nat} {S : FS} {x q : Str}
theorem ev_callKw (F : Fk X.prog X.w X.K X.mg X.base x q k S) (hr : Room k X.A) (hg : Gl X x) (ha : EvD X e ρ (.fz d) ρ1) (hs : S ([d].map .fz) r ([d].map .fz)) (hdb : (x == ("__debug__" : Str)) = false := by decide)
    (hall : (backToKw pos (keywordEach [⟨some q, e, kp⟩] X.env)).all (·.1.isSome) = true := by rfl) (hks : (backToKw pos (keywordEach [⟨some q, e, kp⟩] X.env)).filterMap (·.1) = [q] := by rfl)
    (hpl : ((backTo pos (starEach [] X.env)).any (·.1) || (backToKw pos (keywordEach [⟨some q, e, kp⟩] X.env)).any (·.1.isNone)) = false := by rfl) : EvD X (.Call (.Name x p) [] [⟨some q, e, kp⟩] pos) ρ r ρ1 := .mk fun σ B H Q I z => by
  obtain ⟨f, fd, F, hm, hk, hb⟩ := F
  refine wE.of (pe_callN0 F hr hg hm hk hb pass0 (pk_cons pe_w pk_nil) hall hks hdb hpl) (ha σ B H _ I fun v B1 H1 I1 g1 r1 => ⟨rfl, rfl, ?_⟩)
  exact call_fin (ds := [d]) (vs := [v]) I1 g1 ⟨v, [], rfl, r1, rfl⟩ hs z
end
end DL

/-! DL28: a, b = x, y, whatever of them are new lists. -/
namespace DL
open PySem PySem.Spec PyProof.Rows L2 PySem.W
def ResL (K : PySem.W.Frag) (H0 : Hp) (W : Addr → Prop) (B H : Hp) : List Var → List V → Prop
  | [], vs => vs = []
  | r :: rs, vs => ∃ v us, vs = v :: us ∧ ResOk K H0 W B H r v ∧ (isOw (some r) = true → ∀ u, u ∈ us → ∀ a, v = .ref a → u ≠ .ref a ∨ ∃ n : Nat, us[n]? = some u ∧ isOw rs[n]? = false) ∧ ResL K H0 W B H rs us
/-- what some expressions give: frozen or new -/
structure EvR (X : Cx) (es : List Expr) (ρ : VE) (rs : List Var) (ρ' : VE) : Prop where
  run : ∀ (σ : L2.St) (B H : Hp) (Q : List V → Hp → Prop), EnvOk X.K B H σ ρ →
  (∀ vs B' H', EnvOk X.K B' H' σ ρ' → Go (Rt σ ρ) B H (Rt σ ρ') B' H' → (∃ us : List V, vs = us ∧ us.length = rs.length ∧ (∀ (n : Nat) r v, rs[n]? = some r → us[n]? = some v → ResOk X.K H (Rt σ ρ') B' H' r v) ∧ ∀ (n m : Nat) a, n ≠ m → isOw rs[n]? = true → isOw rs[m]? = true → us[n]? = some (.ref a) → us[m]? = some (.ref a) → False) → Q vs H') → wA X es σ H Q
section
variable {X : Cx} {e a b c : Expr} {es : List Expr} {ρ ρ1 ρ2 ρ3 : VE} {r r1 r2 r3 : Var} {rs : List Var} {rest : List Stmt} {κ : KS} {pos : Pos}
theorem er_nil : EvR X [] ρ [] ρ := ⟨fun σ B H Q I q => wA.of pa_nil (q [] B H I (Go.refl _ _ _) ⟨[], rfl, rfl, fun n r v h => by simp at h, fun n m a _ h => by simp [isOw] at h⟩)⟩
theorem ResOk.go {K : PySem.W.Frag} {H0 B H B2 H2 : Hp} {W W2 : Addr → Prop} (g : Go W B H W2 B2 H2) : ∀ {r : Var} {v : V}, ResOk K H0 W B H r v → ResOk K H0 W2 B2 H2 r v
  | .fz _, _, h => Rep.mono g.bsub h
  | .ow _, _, ⟨a, e, o, n, z⟩ => by
    obtain ⟨ob, ho⟩ := o.some
    have ho2 := g.keep a ob ho n
    have bn : B2 a = none := by
      cases q : B2 a with
      | none => rfl
      | some u =>
        rcases g.new a u q with y | y | y
        · rw [o.none] at y; cases y
        · rw [ho] at y; cases y
        · exact (n y).elim
    refine ⟨a, e, o.mono g.bsub bn fun u hu => g.keep a u hu n, fun y => ?_, z⟩
    rcases g.roots a y with y | y
    · exact n y
    · rw [ho] at y; cases y
  | .un, _, h => h.elim
  | .io _, _, h => h.elim
theorem er_cons (ha : EvD X e ρ r ρ1) (hr : EvR X es ρ1 rs ρ2) (hs : starEach (e :: es) X.env = (false, eval e X.env) :: starEach es X.env := by first | exact star_cons rfl | rfl) : EvR X (e :: es) ρ (r :: rs) ρ2 := ⟨fun σ B H Q I q => by
  refine wA.of (pa_cons pe_w pa_w hs) (ha σ B H _ I fun v B1 H1 I1 g1 q1 => hr.run σ B1 H1 _ I1 fun vs B2 H2 I2 g2 q2 => ?_)
  obtain ⟨us, e1, l, h1, h2⟩ := q2
  subst e1
  refine q (v :: vs) B2 H2 I2 (g1.trans g2) ⟨v :: vs, rfl, by simp [l], fun n s u hs hu => ?_, fun n m a hnm o1 o2 u1 u2 => ?_⟩
  · cases n with
    | zero =>
      simp at hs hu
      subst hs hu
      exact q1.go g2
    | succ n =>
      simp at hs hu
      exact (h1 n s u hs hu).from fun a z => g1.free z
  · have first : ∀ (m : Nat) a, isOw (some r) = true → isOw rs[m]? = true → v = .ref a → vs[m]? = some (.ref a) → False := fun m a p1 p2 e1 u2 => by
      clear o1 o2
      cases r with
      | un => cases p1
      | fz d => cases p1
      | io d => exact q1.elim
      | ow d =>
        obtain ⟨a1, e2, ow1, _, _⟩ := q1
        rw [e1] at e2
        cases e2
        obtain ⟨s, hs2, hw⟩ := isOw_get p2
        have z := h1 m s _ hs2 u2
        cases s with
        | un => cases hw
        | fz d => cases hw
        | io d => exact z.elim
        | ow d =>
          obtain ⟨a3, e3, _, _, z3⟩ := z
          cases e3
          obtain ⟨ob, ho⟩ := ow1.some
          rw [ho] at z3
          cases z3
    cases n with
    | zero =>
      cases m with
      | zero => exact hnm rfl
      | succ m =>
        simp at u1 u2 o1 o2
        exact first m a o1 o2 u1 u2
    | succ n =>
      cases m with
      | zero =>
        simp at u1 u2 o1 o2
        exact first n a o2 o1 u2 u1
      | succ m =>
        simp at u1 u2 o1 o2
        exact h2 n m a (by omega) o1 o2 u1 u2⟩
theorem set_stepS {K : PySem.W.Frag} {σ0 σ : L2.St} {ρ0 : VE} {B H B' H' : Hp} {i : Nat} {v : V} (I : EnvOk K B' H' σ ρ1) (g : GoS σ0 ρ0 B H σ ρ1 B' H') (q : ResOk K H (Rt σ ρ1) B' H' r v) (hi : i < ρ1.length) (hio : isIo ρ1[i]? = false) :
    EnvOk K B' H' (σ.set i (some v)) (ρ1.set i r) ∧ GoS σ0 ρ0 B H (σ.set i (some v)) (ρ1.set i r) B' H' := by
  have hr : (isOw (some r) = true → ∀ a, v = .ref a → ¬ Rt σ ρ1 a ∧ H a = none) ∧ VarOk K B' H' r (some (some v)) := by
    cases r with
    | un => exact q.elim
    | fz d => exact ⟨fun z => Bool.noConfusion z, ⟨v, rfl, q⟩⟩
    | io d => exact q.elim
    | ow d =>
      obtain ⟨a, e, o, n, z⟩ := q
      subst e
      exact ⟨fun _ b e => by cases e; exact ⟨n, z⟩, ⟨a, rfl, o⟩⟩
  refine ⟨I.setv hi hr.2 fun z a e => (hr.1 z a e).1, ⟨⟨g.go.bsub, g.go.keep, g.go.there, g.go.new, fun a h => ?_⟩, fun j h => ?_⟩⟩
  · rcases rt_set I.len hi h with ⟨z, e⟩ | h
    · exact .inr (hr.1 z a e).2
    · exact g.go.roots a h
  · obtain ⟨h1, h2⟩ := g.io j h
    have hj : j ≠ i := fun z => by rw [z, hio] at h1; cases h1
    rw [List.getElem?_set_ne (Ne.symm hj), List.getElem?_set_ne (Ne.symm hj)]
    exact ⟨h1, h2⟩
theorem ResOk.rt {K : PySem.W.Frag} {σ : L2.St} {B H H0 : Hp} {i : Nat} {v u : V} (hl : ρ1.length = σ.length) (hi : i < ρ1.length) (h : ResOk K H0 (Rt σ ρ1) B H r2 u) (ne : isOw (some r1) = true → isOw (some r2) = true → ∀ a, v = .ref a → u = .ref a → False) : ResOk K H0 (Rt (σ.set i (some v)) (ρ1.set i r1)) B H r2 u := by
  cases r2 with
  | un => exact h
  | fz d => exact h
  | io d => exact h
  | ow d =>
    obtain ⟨a, e, o, n, z⟩ := h
    refine ⟨a, e, o, fun y => ?_, z⟩
    rcases rt_set hl hi y with ⟨y1, y2⟩ | y
    · exact ne y1 rfl a y2 e
    · exact n y
theorem xs_parR (i j : Nat) (ρ2 : VE) {x y : Str} {px py pt : Pos} {kt k2 : Nat} {pt2 : Pos} (ha : EvR X [a, b] ρ [r1, r2] ρ1) (hc : X.calm = true) (hN : X.N.Nodup) (hi : X.N[i]? = some x) (hj : X.N[j]? = some y) (hij : i ≠ j) (hx : X.env.scope.names.lookup x = some .local) (hy : X.env.scope.names.lookup y = some .local)
    (k : XS X rest ρ2 κ) (hρ : (ρ1.set i r1).set j r2 = ρ2 := by rfl) (hw : swappedStores [.Tuple [.Name x px, .Name y py] kt pt] (.Tuple [a, b] k2 pt2) X.env = pure (some [x, y]) := by rfl) (hs : swapsWithSole [.Tuple [.Name x px, .Name y py] kt pt] (.Tuple [a, b] k2 pt2) pos.line X.env = pure false := by rfl)
    (hl : decide (i < ρ1.length ∧ j < ρ1.length) = true := by rfl) (hio : isIo ρ1[i]? = false := by rfl) (hio2 : isIo ρ1[j]? = false := by rfl) (io : IoK ρ ρ1 := by first | exact IoK.refl _ | exact ioK_ok rfl) : XS X (.Assign [.Tuple [.Name x px, .Name y py] kt pt] (.Tuple [a, b] k2 pt2) pos :: rest) ρ κ := by
  refine xs_cons (.mk fun σ B H D I S => ?_)
  refine wS.of (ps_par hc hN hi hj hij hx hy pa_w hw hs) (ha.run σ B H _ I fun vs B1 H1 I1 g1 q => ?_)
  obtain ⟨us, e1, l, h1, h2⟩ := q
  subst e1
  match vs, l, h1, h2 with
  | [v, u], _, h1, h2 =>
    have hl' := of_decide_eq_true hl
    refine ⟨v, u, rfl, ?_⟩
    obtain ⟨I2, g2⟩ := set_stepS (r := r1) I1 (go_s g1 io) (h1 0 r1 v rfl rfl) hl'.1 hio
    have q2 := (h1 1 r2 u rfl rfl).rt (r1 := r1) (v := v) I1.len hl'.1 fun o1 o2 a e1 e2 => h2 0 1 a (by decide) o1 o2 (by rw [e1]; rfl) (by rw [e2]; rfl)
    obtain ⟨I3, g3⟩ := set_stepS I2 g2 q2 (i := j) (by rw [List.length_set]; exact hl'.2) (by rw [List.getElem?_set_ne hij]; exact hio2)
    exact S.nx _ _ B1 H1 (by rw [hρ]; exact k) I3 g3
theorem xs_parR3 (i j l : Nat) (ρ2 : VE) {x y z : Str} {px py pz pt : Pos} {kt k2 : Nat} {pt2 : Pos} (ha : EvR X [a, b, c] ρ [r1, r2, r3] ρ1) (hc : X.calm = true) (hN : X.N.Nodup) (hi : X.N[i]? = some x) (hj : X.N[j]? = some y) (hk : X.N[l]? = some z) (hij : i ≠ j ∧ i ≠ l ∧ j ≠ l)
    (hx : X.env.scope.names.lookup x = some .local) (hy : X.env.scope.names.lookup y = some .local) (hz : X.env.scope.names.lookup z = some .local) (k : XS X rest ρ2 κ) (hρ : ((ρ1.set i r1).set j r2).set l r3 = ρ2 := by rfl)
    (hw : swappedStores [.Tuple [.Name x px, .Name y py, .Name z pz] kt pt] (.Tuple [a, b, c] k2 pt2) X.env = pure (some [x, y, z]) := by rfl) (hs : swapsWithSole [.Tuple [.Name x px, .Name y py, .Name z pz] kt pt] (.Tuple [a, b, c] k2 pt2) pos.line X.env = pure false := by rfl)
    (hl : decide (i < ρ1.length ∧ j < ρ1.length ∧ l < ρ1.length) = true := by rfl) (hio : isIo ρ1[i]? = false := by rfl) (hio2 : isIo ρ1[j]? = false := by rfl) (hio3 : isIo ρ1[l]? = false := by rfl) (io : IoK ρ ρ1 := by first | exact IoK.refl _ | exact ioK_ok rfl) :
    XS X (.Assign [.Tuple [.Name x px, .Name y py, .Name z pz] kt pt] (.Tuple [a, b, c] k2 pt2) pos :: rest) ρ κ := by
  refine xs_cons (.mk fun σ B H D I S => ?_)
  refine wS.of (ps_par3 hc hN hi hj hk hij.1 hij.2.1 hij.2.2 hx hy hz pa_w hw hs) (ha.run σ B H _ I fun vs B1 H1 I1 g1 q => ?_)
  obtain ⟨us, e1, ll, h1, h2⟩ := q
  subst e1
  match vs, ll, h1, h2 with
  | [v, u, t], _, h1, h2 =>
    have hl' := of_decide_eq_true hl
    refine ⟨v, u, t, rfl, ?_⟩
    obtain ⟨I2, g2⟩ := set_stepS (r := r1) I1 (go_s g1 io) (h1 0 r1 v rfl rfl) hl'.1 hio
    have q2 := (h1 1 r2 u rfl rfl).rt (r1 := r1) (v := v) I1.len hl'.1 fun o1 o2 a e1 e2 => h2 0 1 a (by decide) o1 o2 (by rw [e1]; rfl) (by rw [e2]; rfl)
    obtain ⟨I3, g3⟩ := set_stepS I2 g2 q2 (i := j) (by rw [List.length_set]; exact hl'.2.1) (by rw [List.getElem?_set_ne hij.1]; exact hio2)
    have q3 := (h1 2 r3 t rfl rfl).rt (r1 := r1) (v := v) I1.len hl'.1 fun o1 o2 a e1 e2 => h2 0 2 a (by decide) o1 o2 (by rw [e1]; rfl) (by rw [e2]; rfl)
    have q4 := q3.rt (r1 := r2) (v := u) (i := j) I2.len (by rw [List.length_set]; exact hl'.2.1) fun o1 o2 a e1 e2 => h2 1 2 a (by decide) o1 o2 (by rw [e1]; rfl) (by rw [e2]; rfl)
    obtain ⟨I4, g4⟩ := set_stepS I3 g3 q4 (i := l) (by rw [List.length_set, List.length_set]; exact hl'.2.2) (by rw [List.getElem?_set_ne hij.2.2, List.getElem?_set_ne hij.2.1]; exact hio3)
    exact S.nx _ _ B1 H1 (by rw [hρ]; exact k) I4 g4
end
end DL

/-! DL29: a, b = x, y where not all are plain locals: a tuple is made and unpacked. -/
namespace DL
open PySem PySem.Spec PyProof.Rows L2 PySem.W
theorem iN {i : Int} (h : 0 ≤ i) : Var.fz (.int i) = Var.fz (eN i.toNat) := by
  show Var.fz (.int i) = Var.fz (.int ((i.toNat : Nat) : Int))
  rw [Int.toNat_of_nonneg h]
section
variable {X : Cx} {a b : Expr} {ρ ρ1 : VE} {r1 r2 : Var} {rest : List Stmt} {κ : KS} {pos : Pos}
theorem EvOk_push {K : PySem.W.Frag} {B H : Hp} {σ : L2.St} {ρ : VE} {p : Addr} {o : HO} (I : EnvOk K B H σ ρ) (h : H p = none) : EnvOk K B (upd H p o) σ ρ := I.grw (Grw.own I.sub h)
theorem ResOk.push {K : PySem.W.Frag} {B H H0 : Hp} {W : Addr → Prop} {p : Addr} {o : HO} (h : H p = none) : ∀ {r : Var} {v : V}, ResOk K H0 W B H r v → ResOk K H0 W B (upd H p o) r v
  | .fz _, _, q => q
  | .ow _, _, ⟨a, e, ow, n, z⟩ => ⟨a, e, ow.mono (Same.refl B) ow.none fun u hu => by rw [upd_ne (ne_of_none hu h)]; exact hu, n, z⟩
  | .un, _, q => q
  | .io _, _, q => q
theorem xs_parU (i j : Nat) (ρ2 : VE) {x y : Str} {px py pt : Pos} {kt k2 : Nat} {pt2 : Pos} (ha : EvR X [a, b] ρ [r1, r2] ρ1) (hc : X.calm = true) (hN : X.N.Nodup) (hi : X.N[i]? = some x) (hj : X.N[j]? = some y) (hij : i ≠ j) (hx : Loc X.env.scope x) (hy : Loc X.env.scope y)
    (k : XS X rest ρ2 κ) (hf : X.fn x = true ∨ X.env.scope.names.lookup x = some .local := by first | exact .inl rfl | exact .inr rfl | assumption) (hf2 : X.fn y = true ∨ X.env.scope.names.lookup y = some .local := by first | exact .inl rfl | exact .inr rfl | assumption) (hρ : (ρ1.set i r1).set j r2 = ρ2 := by rfl) (hw : swappedStores [.Tuple [.Name x px, .Name y py] kt pt] (.Tuple [a, b] k2 pt2) X.env = pure none := by rfl) (hs : swapsWithSole [.Tuple [.Name x px, .Name y py] kt pt] (.Tuple [a, b] k2 pt2) pos.line X.env = pure false := by rfl)
    (hl : decide (i < ρ1.length ∧ j < ρ1.length) = true := by rfl) (hio : isIo ρ1[i]? = false := by rfl) (hio2 : isIo ρ1[j]? = false := by rfl) (io : IoK ρ ρ1 := by first | exact IoK.refl _ | exact ioK_ok rfl)
    (h1 : (assignEach [.Tuple [.Name x px, .Name y py] kt pt] X.env).map (·.2) = [assign (.Tuple [.Name x px, .Name y py] kt pt) X.env] := by rfl)
    (g1 : (assignEach [.Name x px, .Name y py] X.env).map (·.2) = assign (.Name x px) X.env :: (assignEach [.Name y py] X.env).map (·.2) := by rfl) (g2 : (assignEach [.Name y py] X.env).map (·.2) = assign (.Name y py) X.env :: (assignEach [] X.env).map (·.2) := by rfl)
    (hn : (assignEach [.Name x px, .Name y py] X.env).length = 2 := by rfl) (hst : (assignEach [.Name x px, .Name y py] X.env).findIdx? (·.1) = none := by rfl) : XS X (.Assign [.Tuple [.Name x px, .Name y py] kt pt] (.Tuple [a, b] k2 pt2) pos :: rest) ρ κ := by
  refine xs_cons (.mk fun σ B H D I S => ?_)
  refine wS.of (ps_asg (pe_tup pa_w) (pg_tup hc (pgs_cons (pg_name hN hi hx hf) (pgs_cons (pg_name hN hj hy hf2) pgs_nil g2) g1) hn hst) hs hw h1) (ha.run σ B H _ I fun vs B1 H1 I1 g1 q => ?_)
  obtain ⟨us, e1, l, h1, h2⟩ := q
  subst e1
  match vs, l, h1, h2 with
  | [v, u], _, h1, h2 =>
    refine ⟨by show 2 ≤ sizeLine; decide, fun p hp => ?_⟩
    have hl' := of_decide_eq_true hl
    refine ⟨p, [v, u], rfl, .inl (.inl upd_same), rfl, v, [u], rfl, u, [], rfl, rfl, ?_⟩
    have I1' := EvOk_push (o := .tup [v, u]) I1 hp
    have gP : Go (Rt σ ρ1) B1 H1 (Rt σ ρ1) B1 (upd H1 p (.tup [v, u])) := (Grw.own I1.sub hp).go _
    obtain ⟨I2, g2⟩ := set_stepS (r := r1) I1' (go_s (g1.trans gP) io) ((h1 0 r1 v rfl rfl).push hp) hl'.1 hio
    have q2 := ((h1 1 r2 u rfl rfl).push (p := p) (o := .tup [v, u]) hp).rt (r1 := r1) (v := v) I1.len hl'.1 fun o1 o2 a e1 e2 => h2 0 1 a (by decide) o1 o2 (by rw [e1]; rfl) (by rw [e2]; rfl)
    obtain ⟨I3, g3⟩ := set_stepS I2 g2 q2 (i := j) (by rw [List.length_set]; exact hl'.2) (by rw [List.getElem?_set_ne hij]; exact hio2)
    exact S.nx _ _ B1 _ (by rw [hρ]; exact k) I3 g3
end
end DL

/-! DL30: an if whose test changes a list that is held. -/
namespace DL
open PySem PySem.Spec PyProof.Rows L2 PySem.W
section
variable {X : Cx} {a b : Expr} {ρ ρ1 : VE} {c : Bool} {t : Expr} {rest : List Stmt} {κ : KS} {pos : Pos}
theorem xs_ifNi {sa : List Stmt} (h : EvT X t ρ c ρ1) (h1 : c = true → XS X sa ρ1 (noNx κ)) (h2 : c = false → XS X rest ρ1 κ) (io : IoK ρ ρ1 := by first | exact IoK.refl _ | exact ioK_ok rfl) : XS X (.If t sa [] pos :: rest) ρ κ :=
  xs_cons (x1_if h (fun z => (h1 z).mono ⟨fun _ q => q.elim, fun _ _ q => q, fun _ q => q, fun _ q => q⟩) (fun z => xs_nil (h2 z)) io)
theorem xs_ifEi {sa sb : List Stmt} (h : EvT X t ρ c ρ1) (h1 : c = true → XS X sa ρ1 κ) (h2 : c = false → XS X sb ρ1 κ) (io : IoK ρ ρ1 := by first | exact IoK.refl _ | exact ioK_ok rfl) : XS X [.If t sa sb pos] ρ κ := xs_one (x1_if h h1 h2 io)
variable {elt tg iter : Expr} {ifs : List Expr} {scope : Scope} {own : List (Str × Nat)} {js : List Nat} {α β : Type}
theorem xs_setLcGo {β : Type} (v : Nat) {nm : Str} {py lpos : Pos} (l : List α) (enc : α → D) (encB : β → D) (E : α → VE) (q : α → Bool) (f : α → β) (Pm : List β → Prop) (ρ2 : List β → VE) (κ2 : List β → KS) (hc : X.calm = true) (hN : X.N.Nodup) (hy : X.N[v]? = some nm) (hyl : X.env.scope.names.lookup nm = some .local)
    (hi : EvI X tg iter ρ (l.map enc) ρ1) (ok : BlkOk X.N X.env.scope scope own) (hjs : ∀ j, j ∈ js → j ∈ own.map (·.2))
    (hm : ∀ x ∈ l, mergeV ρ1 (E x) (own.map (·.2)) = ρ1) (hG : ∀ x ∈ l, InB X scope fun Y => XG Y tg js (enc x) (wipeV ρ1 (own.map (·.2))) (· = E x)) (hT : ∀ x ∈ l, InB X scope fun Y => EvTs Y ifs (E x) (q x) (E x)) (hE : ∀ x ∈ l, q x = true → InB X scope fun Y => EvD Y elt (E x) (.fz (encB (f x))) (E x))
    (hz : l.length < sizeLine) (hp : Pm ((l.filter q).map f)) (k : ∀ w, Pm w → XS X rest (ρ2 w) (κ2 w)) (hκ : κ = κ2 ((l.filter q).map f) := by rfl) (hρ : ρ1.set v (.ow (eLst encB ((l.filter q).map f))) = ρ2 ((l.filter q).map f) := by rfl)
    (hsw : swapsWith (.ListComp elt [⟨tg, iter, ifs, 0⟩] scope lpos) (some (.Name nm py)) pos.line X.env = pure true := by rfl) (hl : decide (v < ρ1.length) = true := by rfl) (hio : isIo ρ1[v]? = false := by rfl) (io : IoK ρ ρ1 := by first | exact IoK.refl _ | exact ioK_ok rfl) (hfs : ∀ x, foldedSetIterable iter X.env x = pure x := by intro _; rfl) :
    XS X (.Assign [.Name nm py] (.ListComp elt [⟨tg, iter, ifs, 0⟩] scope lpos) pos :: rest) ρ κ :=
  xs_cons (x1_setLcP v l enc E q (fun x => encB (f x)) hc hN hy hyl hsw hi ok hjs hm hG hT hE hz (by
    have e : Var.ow (eLst encB ((l.filter q).map f)) = Var.ow (.lst ((l.filter q).map fun x => encB (f x))) := by
      show Var.ow (.lst _) = Var.ow (.lst _)
      rw [List.map_map]
      rfl
    rw [← e, hρ, hκ]
    exact k _ hp) hl hio io hfs)
theorem xs_setLcMo (v : Nat) {nm : Str} {py lpos : Pos} (l : List α) (enc : α → D) (encB : β → D) (E : α → VE) (f : α → β) (Pm : List β → Prop) (ρ2 : List β → VE) (κ2 : List β → KS) (hc : X.calm = true) (hN : X.N.Nodup) (hy : X.N[v]? = some nm) (hyl : X.env.scope.names.lookup nm = some .local)
    (hi : EvI X tg iter ρ (l.map enc) ρ1) (ok : BlkOk X.N X.env.scope scope own) (hjs : ∀ j, j ∈ js → j ∈ own.map (·.2))
    (hm : ∀ x ∈ l, mergeV ρ1 (E x) (own.map (·.2)) = ρ1) (hG : ∀ x ∈ l, InB X scope fun Y => XG Y tg js (enc x) (wipeV ρ1 (own.map (·.2))) (· = E x)) (hE : ∀ x ∈ l, InB X scope fun Y => EvD Y elt (E x) (.fz (encB (f x))) (E x))
    (hz : l.length < sizeLine) (hp : Pm (l.map f)) (k : ∀ w, Pm w → XS X rest (ρ2 w) (κ2 w)) (hκ : κ = κ2 (l.map f) := by rfl) (hρ : ρ1.set v (.ow (eLst encB (l.map f))) = ρ2 (l.map f) := by rfl)
    (hsw : swapsWith (.ListComp elt [⟨tg, iter, [], 0⟩] scope lpos) (some (.Name nm py)) pos.line X.env = pure true := by rfl) (hl : decide (v < ρ1.length) = true := by rfl) (hio : isIo ρ1[v]? = false := by rfl) (io : IoK ρ ρ1 := by first | exact IoK.refl _ | exact ioK_ok rfl) (hfs : ∀ x, foldedSetIterable iter X.env x = pure x := by intro _; rfl) :
    XS X (.Assign [.Name nm py] (.ListComp elt [⟨tg, iter, [], 0⟩] scope lpos) pos :: rest) ρ κ := by
  have e : l.filter (fun _ => true) = l := List.filter_eq_self.mpr fun _ _ => rfl
  exact xs_setLcGo v l enc encB E (fun _ => true) f Pm ρ2 κ2 hc hN hy hyl hi ok hjs hm hG (fun _ _ _ _ _ _ _ => ets_nil) (fun x h _ => hE x h) hz (by rw [e]; exact hp) k (by rw [e]; exact hκ) (by rw [e]; exact hρ) hsw hl hio io hfs
end
end DL

/-! PL1: sets as masks, their sizes, rank functions, greatest common independent sets. -/
namespace PL
def Sub (a b : Nat) : Prop := ∀ i : Nat, a.testBit i = true → b.testBit i = true
theorem Sub.refl (a : Nat) : Sub a a := fun _ h => h
theorem Sub.trans {a b c : Nat} (h : Sub a b) (g : Sub b c) : Sub a c := fun i q => g i (h i q)
theorem Sub.zero (a : Nat) : Sub 0 a := fun i h => by simp at h
theorem Sub.or {a b c : Nat} (h : Sub a c) (g : Sub b c) : Sub (a ||| b) c := fun i q => by
  rw [Nat.testBit_or, Bool.or_eq_true] at q
  exact q.elim (h i) (g i)
theorem Sub.andl (a b : Nat) : Sub (a &&& b) a := fun i q => by
  rw [Nat.testBit_and, Bool.and_eq_true] at q; exact q.1
theorem Sub.andr (a b : Nat) : Sub (a &&& b) b := fun i q => by
  rw [Nat.testBit_and, Bool.and_eq_true] at q; exact q.2
theorem Sub.orl (a b : Nat) : Sub a (a ||| b) := fun i q => by
  rw [Nat.testBit_or, q]; rfl
theorem Sub.orr (a b : Nat) : Sub b (a ||| b) := fun i q => by
  rw [Nat.testBit_or, q, Bool.or_true]
theorem Sub.xor (a b : Nat) (h : Sub b a) : Sub (a ^^^ b) a := fun i q => by
  rw [Nat.testBit_xor] at q
  cases e : b.testBit i with
  | true => exact h i e
  | false => simpa [e] using q
theorem Sub.antisymm {a b : Nat} (h : Sub a b) (g : Sub b a) : a = b := Nat.eq_of_testBit_eq fun i => by
  cases e : a.testBit i with
  | true => exact (h i e).symm
  | false =>
    cases e2 : b.testBit i with
    | true => rw [g i e2] at e; cases e
    | false => rfl
theorem Sub.le {a b : Nat} (h : Sub a b) : a ≤ b := by
  have : a &&& b = a := Nat.eq_of_testBit_eq fun i => by
    rw [Nat.testBit_and]
    cases e : a.testBit i with
    | true => rw [h i e]; rfl
    | false => rfl
  rw [← this]
  exact Nat.and_le_right
theorem sub_of_or {a b : Nat} (h : Sub a b) : a ||| b = b := (Sub.or h (Sub.refl b)).antisymm (Sub.orr a b)
theorem sub_lt {a n : Nat} (h : a < 2 ^ n) {i : Nat} (q : a.testBit i = true) : i < n := by
  rcases Nat.lt_or_ge i n with z | z
  · exact z
  · rw [Nat.testBit_lt_two_pow (Nat.lt_of_lt_of_le h (Nat.pow_le_pow_right (by decide) z))] at q; cases q
theorem bit_sub {a i : Nat} (h : a.testBit i = true) : Sub (2 ^ i) a := fun j q => by
  rw [Nat.testBit_two_pow, decide_eq_true_eq] at q
  rw [← q]; exact h
theorem full_sub {a n : Nat} (h : a < 2 ^ n) : Sub a (2 ^ n - 1) := fun i q => by
  rw [Nat.testBit_two_pow_sub_one, decide_eq_true_eq]; exact sub_lt h q
theorem lt_of_sub {a b n : Nat} (h : Sub a b) (g : b < 2 ^ n) : a < 2 ^ n := Nat.lt_of_le_of_lt h.le g
/-- how many -/
def card : Nat → Nat → Nat
  | 0, _ => 0
  | n + 1, a => card n a + (a.testBit n).toNat
theorem card_oa (n a b : Nat) : card n (a ||| b) + card n (a &&& b) = card n a + card n b := by
  induction n with
  | zero => rfl
  | succ n ih =>
    simp only [card, Nat.testBit_or, Nat.testBit_and]
    cases a.testBit n <;> cases b.testBit n <;> simp <;> omega
theorem card_zero (n : Nat) : card n 0 = 0 := by
  induction n with
  | zero => rfl
  | succ n ih => simp [card, ih]
theorem card_mono {n a b : Nat} (h : Sub a b) : card n a ≤ card n b := by
  induction n with
  | zero => exact Nat.le_refl _
  | succ n ih =>
    simp only [card]
    cases e : a.testBit n with
    | true => rw [h n e]; omega
    | false => cases b.testBit n <;> simp <;> omega
theorem card_bit {n i : Nat} (h : i < n) : card n (2 ^ i) = 1 := by
  induction n with
  | zero => omega
  | succ n ih =>
    simp only [card, Nat.testBit_two_pow]
    by_cases e : i = n
    · subst e
      rw [decide_eq_true rfl]
      have : ∀ k, k ≤ i → card k (2 ^ i) = 0 := by
        intro k
        induction k with
        | zero => intro _; rfl
        | succ k ih =>
          intro hk
          simp only [card, Nat.testBit_two_pow]
          rw [ih (by omega), decide_eq_false (by omega)]; rfl
      rw [this i (Nat.le_refl _)]; rfl
    · rw [decide_eq_false e, ih (by omega)]; rfl
theorem card_eq_zero {n a : Nat} (h : a < 2 ^ n) (e : card n a = 0) : a = 0 := by
  refine Nat.eq_of_testBit_eq fun i => ?_
  rw [Nat.zero_testBit]
  cases q : a.testBit i with
  | false => rfl
  | true =>
    have := card_mono (n := n) (bit_sub q)
    rw [card_bit (sub_lt h q)] at this
    omega
theorem card_add {n a i : Nat} (hi : i < n) (h : a.testBit i = false) : card n (a ||| 2 ^ i) = card n a + 1 := by
  have := card_oa n a (2 ^ i)
  rw [show a &&& 2 ^ i = 0 from Nat.eq_of_testBit_eq fun j => by
    rw [Nat.testBit_and, Nat.testBit_two_pow, Nat.zero_testBit]
    by_cases e : i = j
    · subst e; rw [h]; rfl
    · rw [decide_eq_false e, Bool.and_false], card_zero, card_bit hi] at this
  omega
/-- without one -/
theorem bit_del {a i : Nat} (h : a.testBit i = true) : ∀ j, (a ^^^ 2 ^ i).testBit j = (a.testBit j && !decide (i = j)) := fun j => by
  rw [Nat.testBit_xor, Nat.testBit_two_pow]
  by_cases e : i = j
  · subst e; rw [h, decide_eq_true rfl]; rfl
  · rw [decide_eq_false e]; simp
theorem del_sub {a i : Nat} (h : a.testBit i = true) : Sub (a ^^^ 2 ^ i) a := Sub.xor _ _ (bit_sub h)
theorem del_add {a i : Nat} (h : a.testBit i = true) : (a ^^^ 2 ^ i) ||| 2 ^ i = a := Nat.eq_of_testBit_eq fun j => by
  rw [Nat.testBit_or, bit_del h, Nat.testBit_two_pow]
  by_cases e : i = j
  · subst e; rw [h]; simp
  · rw [decide_eq_false e]; simp
theorem card_del {n a i : Nat} (hi : i < n) (h : a.testBit i = true) : card n (a ^^^ 2 ^ i) + 1 = card n a := by
  have := card_add (a := a ^^^ 2 ^ i) hi (by rw [bit_del h]; simp)
  rw [del_add h] at this
  exact this.symm
theorem del_lt {a i : Nat} (h : a.testBit i = true) : a ^^^ 2 ^ i < a := by
  have h1 := (del_sub h).le
  rcases Nat.lt_or_eq_of_le h1 with z | z
  · exact z
  · have := bit_del h i
    rw [z, h] at this
    simp at this
theorem card_lt_ex {n a b : Nat} (h : card n a < card n b) : ∃ i, i < n ∧ b.testBit i = true ∧ a.testBit i = false := by
  induction n with
  | zero => exact absurd h (Nat.lt_irrefl _)
  | succ n ih =>
    by_cases e : b.testBit n = true ∧ a.testBit n = false
    · exact ⟨n, by omega, e⟩
    · obtain ⟨i, h1, h2⟩ := ih (by
        simp only [card] at h
        revert e h
        cases a.testBit n <;> cases b.testBit n <;> simp <;> omega)
      exact ⟨i, by omega, h2⟩
theorem card_le_n (n a : Nat) : card n a ≤ n := by
  induction n with
  | zero => exact Nat.le_refl _
  | succ n ih => simp only [card]; cases a.testBit n <;> simp <;> omega
theorem card_full (n : Nat) : ∀ k, k ≤ n → card k (2 ^ n - 1) = k
  | 0, _ => rfl
  | k + 1, h => by
    simp only [card]
    rw [card_full n k (by omega), Nat.testBit_two_pow_sub_one, decide_eq_true (by omega)]; rfl
theorem card_compl {n a : Nat} (h : a < 2 ^ n) : card n ((2 ^ n - 1) ^^^ a) + card n a = n := by
  have := card_oa n ((2 ^ n - 1) ^^^ a) a
  rw [show ((2 ^ n - 1) ^^^ a) ||| a = 2 ^ n - 1 from Nat.eq_of_testBit_eq fun j => by
      rw [Nat.testBit_or, Nat.testBit_xor, Nat.testBit_two_pow_sub_one]
      cases e : a.testBit j with
      | false => simp
      | true => simp; exact sub_lt h e,
    show ((2 ^ n - 1) ^^^ a) &&& a = 0 from Nat.eq_of_testBit_eq fun j => by
      rw [Nat.testBit_and, Nat.testBit_xor, Nat.testBit_two_pow_sub_one, Nat.zero_testBit]
      cases e : a.testBit j with
      | false => simp
      | true => simp; exact sub_lt h e, card_full n n (Nat.le_refl _), card_zero] at this
  omega

/-! ### rank functions on the sets within E -/
structure RF (n E : Nat) (f : Nat → Nat) : Prop where
  le : ∀ a, Sub a E → f a ≤ card n a
  mono : ∀ a b, Sub b E → Sub a b → f a ≤ f b
  sub : ∀ a b, Sub a E → Sub b E → f (a ||| b) + f (a &&& b) ≤ f a + f b
theorem RF.zero {n E : Nat} {f : Nat → Nat} (h : RF n E f) : f 0 = 0 := by
  have := h.le 0 (Sub.zero _)
  rw [card_zero] at this
  omega
theorem RF.restrict {n E E' : Nat} {f : Nat → Nat} (h : RF n E f) (s : Sub E' E) : RF n E' f :=
  ⟨fun a q => h.le a (q.trans s), fun a b q => h.mono a b (q.trans s), fun a b q r => h.sub a b (q.trans s) (r.trans s)⟩
theorem RF.contract {n E e : Nat} {f : Nat → Nat} (h : RF n E f) (he : E.testBit e = true) : RF n (E ^^^ 2 ^ e) fun a => f (a ||| 2 ^ e) - f (2 ^ e) := by
  have se := bit_sub he
  have up : ∀ {a}, Sub a (E ^^^ 2 ^ e) → Sub (a ||| 2 ^ e) E := fun q => (q.trans (del_sub he)).or se
  have ge : ∀ a, Sub a (E ^^^ 2 ^ e) → f (2 ^ e) ≤ f (a ||| 2 ^ e) := fun a q => h.mono _ _ (up q) (Sub.orr _ _)
  refine ⟨fun a q => ?_, fun a b q s => ?_, fun a b q r => ?_⟩
  · have h1 := h.sub a (2 ^ e) (q.trans (del_sub he)) se
    have h2 := h.le a (q.trans (del_sub he))
    show f (a ||| 2 ^ e) - f (2 ^ e) ≤ card n a
    omega
  · have := h.mono (a ||| 2 ^ e) (b ||| 2 ^ e) (up q) ((s.trans (Sub.orl _ _)).or (Sub.orr _ _))
    show f (a ||| 2 ^ e) - f (2 ^ e) ≤ f (b ||| 2 ^ e) - f (2 ^ e)
    omega
  · have h1 := h.sub (a ||| 2 ^ e) (b ||| 2 ^ e) (up q) (up r)
    rw [show (a ||| 2 ^ e) ||| (b ||| 2 ^ e) = (a ||| b) ||| 2 ^ e from Nat.eq_of_testBit_eq fun j => by
        simp only [Nat.testBit_or]; cases a.testBit j <;> cases b.testBit j <;> simp,
      show (a ||| 2 ^ e) &&& (b ||| 2 ^ e) = (a &&& b) ||| 2 ^ e from Nat.eq_of_testBit_eq fun j => by
        simp only [Nat.testBit_or, Nat.testBit_and]; cases a.testBit j <;> cases b.testBit j <;> simp] at h1
    have := ge a q
    have := ge b r
    have := ge (a ||| b) (q.or r)
    have := ge (a &&& b) ((Sub.andl _ _).trans q)
    show f (a ||| b ||| 2 ^ e) - f (2 ^ e) + (f (a &&& b ||| 2 ^ e) - f (2 ^ e)) ≤ f (a ||| 2 ^ e) - f (2 ^ e) + (f (b ||| 2 ^ e) - f (2 ^ e))
    omega
theorem ex_bit {E : Nat} (h : E ≠ 0) : ∃ e, E.testBit e = true := Classical.byContradiction fun q => h <| Nat.eq_of_testBit_eq fun i => by
  rw [Nat.zero_testBit]
  cases e : E.testBit i with
  | false => rfl
  | true => exact absurd ⟨i, e⟩ q
/-- as many as the least cover -/
theorem inter_ex {n : Nat} : ∀ (k : Nat) (E : Nat) (f g : Nat → Nat) (t : Nat), E < 2 ^ n → card n E = k → RF n E f → RF n E g → (∀ A, Sub A E → t ≤ f A + g (E ^^^ A)) → ∃ I, Sub I E ∧ f I = t ∧ g I = t ∧ card n I = t
  | 0, E, f, g, t, hE, hk, hf, hg, ht => by
    have e0 := card_eq_zero hE hk
    subst e0
    have := ht 0 (Sub.zero _)
    rw [Nat.xor_self, hf.zero, hg.zero] at this
    have : t = 0 := by omega
    subst this
    exact ⟨0, Sub.zero _, hf.zero, hg.zero, card_zero n⟩
  | k + 1, E, f, g, t, hE, hk, hf, hg, ht => by
    obtain ⟨e, he⟩ := ex_bit (E := E) fun z => by rw [z, card_zero] at hk; omega
    have en := sub_lt hE he
    have se := bit_sub he
    have sE := del_sub he
    have ck : card n (E ^^^ 2 ^ e) = k := by have := card_del en he; omega
    have lE := lt_of_sub sE hE
    have nb : ∀ {A}, Sub A (E ^^^ 2 ^ e) → A.testBit e = false := fun {A} h => by
      cases q : A.testBit e with
      | false => rfl
      | true => have := h e q; rw [bit_del he] at this; simp at this
    by_cases hdel : ∀ A, Sub A (E ^^^ 2 ^ e) → t ≤ f A + g (E ^^^ 2 ^ e ^^^ A)
    · obtain ⟨I, h1, h2⟩ := inter_ex k (E ^^^ 2 ^ e) f g t lE ck (hf.restrict sE) (hg.restrict sE) hdel
      exact ⟨I, h1.trans sE, h2⟩
    · obtain ⟨A, hA⟩ := Classical.not_forall.mp hdel
      obtain ⟨sA, hA⟩ := Classical.not_imp.mp hA
      have hA : f A + g (E ^^^ 2 ^ e ^^^ A) < t := Nat.lt_of_not_le hA
      have nA := nb sA
      have up : ∀ {a}, Sub a (E ^^^ 2 ^ e) → Sub (a ||| 2 ^ e) E := fun q => (q.trans sE).or se
      -- no loops
      have x1 : E ^^^ (A ||| 2 ^ e) = E ^^^ 2 ^ e ^^^ A := Nat.eq_of_testBit_eq fun j => by
        simp only [Nat.testBit_xor, Nat.testBit_or, Nat.testBit_two_pow]
        by_cases z : e = j
        · subst z; rw [nA, he]; simp
        · simp [z]
      have x2 : E ^^^ A = (E ^^^ 2 ^ e ^^^ A) ||| 2 ^ e := Nat.eq_of_testBit_eq fun j => by
        simp only [Nat.testBit_xor, Nat.testBit_or, Nat.testBit_two_pow]
        by_cases z : e = j
        · subst z; rw [nA, he]; simp
        · simp [z]
      have sA2 : Sub (E ^^^ 2 ^ e ^^^ A) E := (Sub.xor _ _ sA).trans sE
      have cb := card_bit en
      have f1 : f (2 ^ e) = 1 := by
        have h1 := hf.le _ se
        have h2 := hf.sub A (2 ^ e) (sA.trans sE) se
        have h3 := ht (A ||| 2 ^ e) (up sA)
        rw [x1] at h3
        omega
      have g1 : g (2 ^ e) = 1 := by
        have h1 := hg.le _ se
        have h2 := hg.sub (E ^^^ 2 ^ e ^^^ A) (2 ^ e) sA2 se
        have h3 := ht A (sA.trans sE)
        rw [x2] at h3
        omega
      have key : ∀ B, Sub B (E ^^^ 2 ^ e) → t - 1 ≤ f (B ||| 2 ^ e) - f (2 ^ e) + (g (E ^^^ 2 ^ e ^^^ B ||| 2 ^ e) - g (2 ^ e)) := fun B sB => by
        have nB := nb sB
        have y2 : (E ^^^ 2 ^ e ^^^ B) ||| 2 ^ e = E ^^^ B := Nat.eq_of_testBit_eq fun j => by
          simp only [Nat.testBit_xor, Nat.testBit_or, Nat.testBit_two_pow]
          by_cases z : e = j
          · subst z; rw [nB, he]; simp
          · simp [z]
        have sB1 := up sB
        have sB2 : Sub (E ^^^ B) E := Sub.xor _ _ (sB.trans sE)
        have s1 := hf.sub A (B ||| 2 ^ e) (sA.trans sE) sB1
        have s2 := hg.sub (E ^^^ 2 ^ e ^^^ A) (E ^^^ B) sA2 sB2
        have z1 := ht (A ||| (B ||| 2 ^ e)) ((sA.trans sE).or sB1)
        have z2 := ht (A &&& (B ||| 2 ^ e)) ((Sub.andl _ _).trans (sA.trans sE))
        rw [show E ^^^ (A ||| (B ||| 2 ^ e)) = (E ^^^ 2 ^ e ^^^ A) &&& (E ^^^ B) from Nat.eq_of_testBit_eq fun j => by
          simp only [Nat.testBit_xor, Nat.testBit_or, Nat.testBit_and, Nat.testBit_two_pow]
          have p1 := sA j
          have p2 := sB j
          rw [bit_del he] at p1 p2
          by_cases z : e = j
          · subst z; rw [nA, nB, he]; simp
          · revert p1 p2; cases A.testBit j <;> cases B.testBit j <;> cases E.testBit j <;> simp [z]] at z1
        rw [show E ^^^ (A &&& (B ||| 2 ^ e)) = (E ^^^ 2 ^ e ^^^ A) ||| (E ^^^ B) from Nat.eq_of_testBit_eq fun j => by
          simp only [Nat.testBit_xor, Nat.testBit_or, Nat.testBit_and, Nat.testBit_two_pow]
          have p1 := sA j
          have p2 := sB j
          rw [bit_del he] at p1 p2
          by_cases z : e = j
          · subst z; rw [nA, nB, he]; simp
          · revert p1 p2; cases A.testBit j <;> cases B.testBit j <;> cases E.testBit j <;> simp [z]] at z2
        have m1 := hf.mono _ _ sB1 (Sub.orr B (2 ^ e))
        have m2 := hg.mono (2 ^ e) (E ^^^ B) sB2 (by rw [← y2]; exact Sub.orr _ _)
        rw [y2]
        omega
      obtain ⟨I, h1, h2, h3, h4⟩ := inter_ex k (E ^^^ 2 ^ e) _ _ (t - 1) lE ck (hf.contract he) (hg.contract he) key
      have m1 := hf.mono _ _ (up h1) (Sub.orr I (2 ^ e))
      have m2 := hg.mono _ _ (up h1) (Sub.orr I (2 ^ e))
      refine ⟨I ||| 2 ^ e, up h1, ?_, ?_, ?_⟩
      · omega
      · omega
      · rw [card_add en (nb h1)]; omega
/-- a common independent set is at most a cover -/
theorem inter_le {n E : Nat} {f g : Nat → Nat} (hf : RF n E f) (hg : RF n E g) {I A : Nat} (hI : Sub I E) (hA : Sub A E) (h1 : f I = card n I) (h2 : g I = card n I) : card n I ≤ f A + g (E ^^^ A) := by
  have sX := Sub.xor _ _ hA
  have ind : ∀ {f : Nat → Nat}, RF n E f → f I = card n I → ∀ A, Sub A E → card n (I &&& A) ≤ f A := fun {f} hf h1 A hA => by
    have s := hf.sub I A hI hA
    have u := hf.mono _ _ (hI.or hA) (Sub.orl I A)
    have c1 := card_oa n (I &&& A) (I &&& (E ^^^ A))
    have s2 := hf.sub (I &&& A) (I &&& (E ^^^ A)) ((Sub.andl _ _).trans hI) ((Sub.andl _ _).trans hI)
    have l2 := hf.le (I &&& (E ^^^ A)) ((Sub.andl _ _).trans hI)
    have l1 := hf.mono _ _ hA (Sub.andr I A)
    rw [show (I &&& A) ||| (I &&& (E ^^^ A)) = I from Nat.eq_of_testBit_eq fun j => by
      simp only [Nat.testBit_xor, Nat.testBit_or, Nat.testBit_and]
      have := hI j
      revert this
      cases I.testBit j <;> cases A.testBit j <;> cases E.testBit j <;> simp] at c1 s2
    rw [show (I &&& A) &&& (I &&& (E ^^^ A)) = 0 from Nat.eq_of_testBit_eq fun j => by
      simp only [Nat.testBit_xor, Nat.testBit_and, Nat.zero_testBit]
      have := hA j
      revert this
      cases I.testBit j <;> cases A.testBit j <;> cases E.testBit j <;> simp, card_zero] at c1
    omega
  have c1 := card_oa n (I &&& A) (I &&& (E ^^^ A))
  rw [show (I &&& A) ||| (I &&& (E ^^^ A)) = I from Nat.eq_of_testBit_eq fun j => by
    simp only [Nat.testBit_xor, Nat.testBit_or, Nat.testBit_and]
    have := hI j
    revert this
    cases I.testBit j <;> cases A.testBit j <;> cases E.testBit j <;> simp] at c1
  have := ind hf h1 A hA
  have := ind hg h2 _ sX
  omega
end PL

/-! PL2: independent sets, their ranks. -/
namespace PL
structure Ind (n : Nat) (F : Nat → Prop) : Prop where
  zero : F 0
  her : ∀ a b, b < 2 ^ n → Sub a b → F b → F a
  aug : ∀ a b, a < 2 ^ n → b < 2 ^ n → F a → F b → card n a < card n b → ∃ i, i < n ∧ b.testBit i = true ∧ a.testBit i = false ∧ F (a ||| 2 ^ i)
/-- ranks, as a program tells them -/
structure IsR (n : Nat) (F : Nat → Prop) (R : Nat → Nat) : Prop where
  yes : ∀ m, m < 2 ^ n → F m → R m = card n m
  ex : ∀ m, m < 2 ^ n → ¬ F m → ∃ i, m.testBit i = true ∧ R m = R (m ^^^ 2 ^ i)
  le : ∀ m i, m < 2 ^ n → ¬ F m → m.testBit i = true → R (m ^^^ 2 ^ i) ≤ R m
theorem ne_ex {a b : Nat} (h : Sub a b) (e : a ≠ b) : ∃ i, b.testBit i = true ∧ a.testBit i = false := Classical.byContradiction fun q => e <| h.antisymm fun i z => by
  cases w : a.testBit i with
  | true => rfl
  | false => exact absurd ⟨i, z, w⟩ q
theorem sub_del {a b i : Nat} (h : Sub a b) (e : a.testBit i = false) (hb : b.testBit i = true) : Sub a (b ^^^ 2 ^ i) := fun j q => by
  rw [bit_del hb, h j q]
  by_cases z : i = j
  · subst z; rw [e] at q; cases q
  · simp [z]
section
variable {n : Nat} {F : Nat → Prop} {R : Nat → Nat}
theorem IsR.max (h : IsR n F R) (I : Ind n F) : ∀ m, m < 2 ^ n → (∃ s, Sub s m ∧ F s ∧ card n s = R m) ∧ (∀ s, Sub s m → F s → card n s ≤ R m) := by
  intro m
  induction m using Nat.strongRecOn with
  | _ m ih =>
    intro hm
    by_cases f : F m
    · have := h.yes m hm f
      exact ⟨⟨m, Sub.refl m, f, this.symm⟩, fun s q _ => by rw [this]; exact card_mono q⟩
    · constructor
      · obtain ⟨i, hi, e⟩ := h.ex m hm f
        obtain ⟨⟨s, h1, h2, h3⟩, _⟩ := ih _ (del_lt hi) (Nat.lt_trans (del_lt hi) hm)
        exact ⟨s, h1.trans (del_sub hi), h2, by rw [h3, e]⟩
      · intro s q fs
        obtain ⟨i, hb, hs⟩ := ne_ex q fun z => f (z ▸ fs)
        have := (ih _ (del_lt hb) (Nat.lt_trans (del_lt hb) hm)).2 s (sub_del q hs hb) fs
        exact Nat.le_trans this (h.le m i hm f hb)
theorem IsR.iff (h : IsR n F R) (I : Ind n F) {m : Nat} (hm : m < 2 ^ n) : F m ↔ R m = card n m := by
  refine ⟨h.yes m hm, fun e => ?_⟩
  obtain ⟨s, h1, h2, h3⟩ := (h.max I m hm).1
  have : s = m := Classical.byContradiction fun z => by
    obtain ⟨i, hb, hs⟩ := ne_ex h1 z
    have := card_mono (n := n) (sub_del h1 hs hb)
    have := card_del (sub_lt hm hb) hb
    omega
  exact this ▸ h2
/-- a free set grows to a greatest one -/
theorem IsR.ext (h : IsR n F R) (I : Ind n F) : ∀ (k s m : Nat), m < 2 ^ n → Sub s m → F s → card n s + k = R m → ∃ t, Sub s t ∧ Sub t m ∧ F t ∧ card n t = R m
  | 0, s, m, hm, hs, f, e => ⟨s, Sub.refl s, hs, f, e⟩
  | k + 1, s, m, hm, hs, f, e => by
    obtain ⟨u, h1, h2, h3⟩ := (h.max I m hm).1
    obtain ⟨i, hi, b1, b2, b3⟩ := I.aug s u (lt_of_sub hs hm) (lt_of_sub h1 hm) f h2 (by omega)
    obtain ⟨t, t1, t2⟩ := IsR.ext h I k (s ||| 2 ^ i) m hm (hs.or ((bit_sub b1).trans h1)) b3 (by rw [card_add hi b2]; omega)
    exact ⟨t, (Sub.orl _ _).trans t1, t2⟩
theorem IsR.rf (h : IsR n F R) (I : Ind n F) : RF n (2 ^ n - 1) R := by
  have lt : ∀ {a}, Sub a (2 ^ n - 1) → a < 2 ^ n := fun q => lt_of_sub q (Nat.sub_lt (Nat.two_pow_pos n) (by decide))
  refine ⟨fun a q => ?_, fun a b q s => ?_, fun a b q r => ?_⟩
  · obtain ⟨s, h1, h2, h3⟩ := (h.max I a (lt q)).1
    rw [← h3]
    exact card_mono h1
  · obtain ⟨u, h1, h2, h3⟩ := (h.max I a (lt (s.trans q))).1
    rw [← h3]
    exact (h.max I b (lt q)).2 u (h1.trans s) h2
  · have ha := lt q
    have hb := lt r
    have ho := lt (q.or r)
    have hn := lt ((Sub.andl a b).trans q)
    obtain ⟨u, u1, u2, u3⟩ := (h.max I (a &&& b) hn).1
    have := (h.max I (a ||| b) ho).2 u (u1.trans ((Sub.andl _ _).trans (Sub.orl _ _))) u2
    obtain ⟨t, t1, t2, t3, t4⟩ := h.ext I (R (a ||| b) - card n u) u (a ||| b) ho (u1.trans ((Sub.andl _ _).trans (Sub.orl _ _))) u2 (by omega)
    have tl := lt_of_sub t2 ho
    have c1 := (h.max I a ha).2 (t &&& a) (Sub.andr _ _) (I.her _ _ tl (Sub.andl _ _) t3)
    have c2 := (h.max I b hb).2 (t &&& b) (Sub.andr _ _) (I.her _ _ tl (Sub.andl _ _) t3)
    have c3 := card_oa n (t &&& a) (t &&& b)
    have c4 : card n t ≤ card n ((t &&& a) ||| (t &&& b)) := card_mono fun j z => by
      have := t2 j z
      simp only [Nat.testBit_or, Nat.testBit_and, z] at this ⊢
      simpa using this
    have c5 : card n u ≤ card n ((t &&& a) &&& (t &&& b)) := card_mono fun j z => by
      have p1 := t1 j z
      have p2 := u1 j z
      simp only [Nat.testBit_and] at p2 ⊢
      simp at p2
      simp [p1, p2]
    omega
/-- no two elements alone do not raise a rank and both do: adding all that do not raise it does not raise it -/
theorem RF.still {E : Nat} (h : RF n E R) {a : Nat} (ha : Sub a E) : ∀ (l : List Nat), (∀ d, d ∈ l → Sub d E ∧ R (a ||| d) = R a) → R (l.foldl (fun x d => x ||| d) a) = R a ∧ Sub (l.foldl (fun x d => x ||| d) a) E := by
  suffices H : ∀ (l : List Nat) (x : Nat), Sub a x → Sub x E → R x = R a → (∀ d, d ∈ l → Sub d E ∧ R (a ||| d) = R a) → R (l.foldl (fun x d => x ||| d) x) = R a ∧ Sub (l.foldl (fun x d => x ||| d) x) E from fun l q => H l a (Sub.refl a) ha rfl q
  intro l
  induction l with
  | nil => intro x h1 h2 h3 _; exact ⟨h3, h2⟩
  | cons d l ih =>
    intro x h1 h2 h3 q
    obtain ⟨d1, d2⟩ := q d List.mem_cons_self
    refine ih (x ||| d) (h1.trans (Sub.orl _ _)) (h2.or d1) ?_ fun e z => q e (List.mem_cons_of_mem _ z)
    have s := h.sub x (a ||| d) h2 (ha.or d1)
    have m1 := h.mono a (x &&& (a ||| d)) ((Sub.andl _ _).trans h2) (fun j z => by simp [Nat.testBit_and, Nat.testBit_or, z, h1 j z])
    have m2 := h.mono x (x ||| d) (h2.or d1) (Sub.orl _ _)
    rw [show x ||| (a ||| d) = x ||| d from Nat.eq_of_testBit_eq fun j => by
      have := h1 j
      revert this
      simp only [Nat.testBit_or]
      cases a.testBit j <;> cases x.testBit j <;> simp] at s
    omega
end
end PL

/-! PL3: five kinds of independent lists. -/
namespace PL
def mem (n m : Nat) : List Nat := (List.range n).filter (m.testBit ·)
theorem mem_iff {n m i : Nat} : i ∈ mem n m ↔ i < n ∧ m.testBit i = true := by
  unfold mem; rw [List.mem_filter, List.mem_range]
theorem mem_nd (n m : Nat) : (mem n m).Nodup := List.nodup_range.filter _
theorem mem_card (n m : Nat) : (mem n m).length = card n m := by
  induction n with
  | zero => rfl
  | succ n ih =>
    unfold mem at ih ⊢
    rw [List.range_succ, List.filter_append, List.length_append, ih]
    simp only [card, List.filter_cons, List.filter_nil]
    cases m.testBit n <;> rfl
theorem mem_sub {n a b : Nat} (h : Sub a b) : (mem n a).Sublist (mem n b) := by
  have : mem n a = (mem n b).filter (a.testBit ·) := by
    unfold mem
    rw [List.filter_filter]
    refine List.filter_congr fun i _ => ?_
    cases e : a.testBit i with
    | false => rfl
    | true => rw [h i e]; rfl
  rw [this]
  exact List.filter_sublist
theorem mem_add {n a i : Nat} (hi : i < n) (h : a.testBit i = false) : (mem n (a ||| 2 ^ i)).Perm (i :: mem n a) := by
  refine (List.perm_ext_iff_of_nodup (mem_nd _ _) (List.nodup_cons.mpr ⟨fun q => by rw [mem_iff, h] at q; simp at q, mem_nd _ _⟩)).mpr fun j => ?_
  rw [List.mem_cons, mem_iff, mem_iff, Nat.testBit_or, Nat.testBit_two_pow]
  by_cases e : i = j
  · subst e; simp [hi]
  · simp [e]; intro z; exact absurd z.symm e
structure LInd (Q : List Nat → Prop) : Prop where
  nil : Q []
  perm : ∀ l l', l.Perm l' → Q l → Q l'
  sub : ∀ l l', l.Sublist l' → Q l' → Q l
  aug : ∀ l l', l.Nodup → l'.Nodup → Q l → Q l' → l.length < l'.length → ∃ x, x ∈ l' ∧ x ∉ l ∧ Q (x :: l)
theorem LInd.ind {Q : List Nat → Prop} (h : LInd Q) (n : Nat) : Ind n fun m => Q (mem n m) where
  zero := by
    have : mem n 0 = [] := by
      unfold mem; rw [List.filter_eq_nil_iff]; intro i _; simp
    show Q (mem n 0)
    rw [this]; exact h.nil
  her a b _ s q := h.sub _ _ (mem_sub s) q
  aug a b ha hb qa qb c := by
    rw [← mem_card, ← mem_card] at c
    obtain ⟨x, h1, h2, h3⟩ := h.aug _ _ (mem_nd n a) (mem_nd n b) qa qb c
    rw [mem_iff] at h1
    have h4 : a.testBit x = false := by
      cases e : a.testBit x with
      | false => rfl
      | true => exact absurd (mem_iff.mpr ⟨h1.1, e⟩) h2
    exact ⟨x, h1.1, h1.2, h4, h.perm _ _ (mem_add h1.1 h4).symm h3⟩

/-! ### a size -/
theorem li_size (t : Nat) : LInd fun l => l.length ≤ t where
  nil := Nat.zero_le _
  perm l l' p q := by rw [← p.length_eq]; exact q
  sub l l' s q := Nat.le_trans s.length_le q
  aug l l' hl hl' q q' c := by
    obtain ⟨x, h1, h2⟩ : ∃ x, x ∈ l' ∧ x ∉ l := Classical.byContradiction fun z => by
      have := hl'.length_le_of_subset (l₂ := l) fun x hx => Classical.byContradiction fun w => z ⟨x, hx, w⟩
      omega
    exact ⟨x, h1, h2, by rw [List.length_cons]; omega⟩

/-! ### blocks -/
theorem len_count : ∀ (L L' : List Nat), (∀ b, L'.count b ≤ L.count b) → L'.length ≤ L.length
  | _, [], _ => Nat.zero_le _
  | L, x :: L', h => by
    have hx : x ∈ L := List.count_pos_iff.mp (by have := h x; rw [List.count_cons_self] at this; omega)
    have := len_count (L.erase x) L' fun b => by
      have := h b
      rw [List.count_cons] at this
      rw [List.count_erase]
      by_cases e : x = b
      · subst e; simp at this ⊢; omega
      · simp [e] at this ⊢; omega
    rw [List.length_erase_of_mem hx] at this
    have := List.length_pos_of_mem hx
    rw [List.length_cons]; omega
theorem count_le_of {l l' : List Nat} (lab : Nat → Nat) (b : Nat) (hl' : l'.Nodup) (h : ∀ x, x ∈ l' → lab x = b → x ∈ l) : (l'.map lab).count b ≤ (l.map lab).count b := by
  rw [List.count_eq_countP, List.countP_map, List.count_eq_countP, List.countP_map, List.countP_eq_length_filter, List.countP_eq_length_filter]
  refine List.Nodup.length_le_of_subset (List.Pairwise.filter _ hl') fun x hx => ?_
  rw [List.mem_filter] at hx ⊢
  exact ⟨h x hx.1 (by simpa using hx.2), hx.2⟩
theorem li_blocks (lab : Nat → Nat) (caps : List (Nat × Nat)) : LInd fun l => ∀ p, p ∈ caps → (l.map lab).count p.1 ≤ p.2 where
  nil p _ := Nat.zero_le _
  perm l l' e q p hp := by rw [← (e.map lab).count_eq]; exact q p hp
  sub l l' s q p hp := Nat.le_trans ((s.map lab).count_le _) (q p hp)
  aug l l' hl hl' q q' c := Classical.byContradiction fun z => by
    have := len_count (l.map lab) (l'.map lab) fun b => by
      by_cases w : ∀ x, x ∈ l' → lab x = b → x ∈ l
      · exact count_le_of lab b hl' w
      · obtain ⟨x, w⟩ := Classical.not_forall.mp w
        obtain ⟨h1, w⟩ := Classical.not_imp.mp w
        obtain ⟨h2, h3⟩ := Classical.not_imp.mp w
        obtain ⟨p, w⟩ := Classical.not_forall.mp fun y => z ⟨x, h1, h3, y⟩
        obtain ⟨hp, w⟩ := Classical.not_imp.mp w
        have e1 := q p hp
        have e2 := q' p hp
        rw [List.map_cons, List.count_cons, h2] at w
        by_cases e : b = p.1
        · rw [← e] at e1 e2 w; simp at w; omega
        · simp [e] at w; omega
    rw [List.length_map, List.length_map] at this
    omega

/-! ### different sets of a family -/
def Mtc (ok : Nat → Nat → Prop) (l : List Nat) : Prop := ∃ f : Nat → Nat, (∀ x, x ∈ l → ok x (f x)) ∧ ∀ x y, x ∈ l → y ∈ l → f x = f y → x = y
theorem nd_map {l : List Nat} {f : Nat → Nat} (h : l.Nodup) (q : ∀ x y, x ∈ l → y ∈ l → f x = f y → x = y) : (l.map f).Nodup := by
  induction l with
  | nil => exact List.nodup_nil
  | cons x l ih =>
    rw [List.map_cons, List.nodup_cons]
    rw [List.nodup_cons] at h
    refine ⟨fun z => ?_, ih h.2 fun a b ha hb => q a b (List.mem_cons_of_mem _ ha) (List.mem_cons_of_mem _ hb)⟩
    obtain ⟨y, hy, e⟩ := List.mem_map.mp z
    rw [q y x (List.mem_cons_of_mem _ hy) List.mem_cons_self e] at hy
    exact h.1 hy
theorem mtc_aug (ok : Nat → Nat → Prop) (l l' : List Nat) (hl : l.Nodup) (hl' : l'.Nodup) (g : Nat → Nat) (g1 : ∀ x, x ∈ l' → ok x (g x)) (g2 : ∀ x y, x ∈ l' → y ∈ l' → g x = g y → x = y) (c : l.length < l'.length) :
    ∀ (k : Nat) (f : Nat → Nat), (∀ x, x ∈ l → ok x (f x)) → (∀ x y, x ∈ l → y ∈ l → f x = f y → x = y) → l.countP (fun x => f x != g x) ≤ k → ∃ x, x ∈ l' ∧ x ∉ l ∧ Mtc ok (x :: l)
  | k, f, f1, f2, hk => by
    obtain ⟨t, h1, h2⟩ : ∃ t, t ∈ l' ∧ ∀ x, x ∈ l → f x ≠ g t := Classical.byContradiction fun z => by
      have := (nd_map hl' g2).length_le_of_subset (l₂ := l.map f) fun b hb => by
        obtain ⟨t, ht, e⟩ := List.mem_map.mp hb
        refine Classical.byContradiction fun w => z ⟨t, ht, fun x hx q => w (List.mem_map.mpr ⟨x, hx, q.trans e⟩)⟩
      rw [List.length_map, List.length_map] at this
      omega
    by_cases ht : t ∈ l
    · match k with
      | 0 =>
        have : 0 < l.countP (fun x => f x != g x) := List.countP_pos_iff.mpr ⟨t, ht, by simpa using h2 t ht⟩
        omega
      | k + 1 =>
        refine mtc_aug ok l l' hl hl' g g1 g2 c k (fun x => if x = t then g t else f x) (fun x hx => ?_) (fun x y hx hy e => ?_) ?_
        · by_cases z : x = t
          · simp only [z, if_true]; exact g1 t h1
          · simp only [z, if_false]; exact f1 x hx
        · by_cases z : x = t <;> by_cases w : y = t
          · rw [z, w]
          · simp only [z, w, if_true, if_false] at e; exact absurd e.symm (h2 y hy)
          · simp only [z, w, if_true, if_false] at e; exact absurd e (h2 x hx)
          · simp only [z, w, if_false] at e; exact f2 x y hx hy e
        · have : ∀ (m : List Nat), m.Nodup → t ∈ m → (∀ x, x ∈ m → x ∈ l) → m.countP (fun x => (if x = t then g t else f x) != g x) + 1 ≤ m.countP (fun x => f x != g x) := by
            have aux : ∀ (m : List Nat), t ∉ m → m.countP (fun x => (if x = t then g t else f x) != g x) = m.countP (fun x => f x != g x) := fun m hm => by
              refine List.countP_congr fun x hx => ?_
              rw [if_neg (show ¬ x = t from fun z => hm (by rw [← z]; exact hx))]
            intro m
            induction m with
            | nil => intro _ h _; cases h
            | cons x m ih =>
              intro hn hm hs
              rw [List.nodup_cons] at hn
              rw [List.countP_cons, List.countP_cons]
              by_cases z : x = t
              · subst z
                rw [aux m hn.1]
                have := h2 x (hs x List.mem_cons_self)
                simp [this]
              · have := ih hn.2 ((List.mem_cons.mp hm).resolve_left fun q => z q.symm) fun y hy => hs y (List.mem_cons_of_mem _ hy)
                simp only [z, if_false]
                omega
          have := this l hl ht fun _ h => h
          omega
    · refine ⟨t, h1, ht, fun x => if x = t then g t else f x, fun x hx => ?_, fun x y hx hy e => ?_⟩
      · by_cases z : x = t
        · simp only [z, if_true]; exact g1 t h1
        · simp only [z, if_false]; exact f1 x ((List.mem_cons.mp hx).resolve_left z)
      · by_cases z : x = t <;> by_cases w : y = t
        · rw [z, w]
        · simp only [z, w, if_true, if_false] at e; exact absurd e.symm (h2 y ((List.mem_cons.mp hy).resolve_left w))
        · simp only [z, w, if_true, if_false] at e; exact absurd e (h2 x ((List.mem_cons.mp hx).resolve_left z))
        · simp only [z, w, if_false] at e; exact f2 x y ((List.mem_cons.mp hx).resolve_left z) ((List.mem_cons.mp hy).resolve_left w) e
theorem li_fam (ok : Nat → Nat → Prop) : LInd (Mtc ok) where
  nil := ⟨fun _ => 0, fun _ h => absurd h List.not_mem_nil, fun _ _ h => absurd h List.not_mem_nil⟩
  perm l l' p := fun ⟨f, h1, h2⟩ => ⟨f, fun x hx => h1 x (p.mem_iff.mpr hx), fun x y hx hy => h2 x y (p.mem_iff.mpr hx) (p.mem_iff.mpr hy)⟩
  sub l l' s := fun ⟨f, h1, h2⟩ => ⟨f, fun x hx => h1 x (s.subset hx), fun x y hx hy => h2 x y (s.subset hx) (s.subset hy)⟩
  aug l l' hl hl' := fun ⟨f, f1, f2⟩ ⟨g, g1, g2⟩ c => mtc_aug ok l l' hl hl' g g1 g2 c _ f f1 f2 (Nat.le_refl _)

/-! ### columns over 2 -/
def xs (l : List Nat) : Nat := l.foldr (fun a b => a ^^^ b) 0
theorem xs_perm {l l' : List Nat} (h : l.Perm l') : xs l = xs l' := h.foldr_eq' (fun x _ y _ z => by rw [← Nat.xor_assoc, ← Nat.xor_assoc, Nat.xor_comm y x]) 0
/-- no part of them sums to 0 -/
def Fre (l : List Nat) : Prop := ∀ s, s.Sublist l → xs s = 0 → s = []
def spn : List Nat → List Nat
  | [] => [0]
  | c :: l => spn l ++ (spn l).map (c ^^^ ·)
theorem mem_spn : ∀ {l : List Nat} {x : Nat}, x ∈ spn l ↔ ∃ s, s.Sublist l ∧ xs s = x
  | [], x => by
    simp only [spn, List.mem_singleton, List.sublist_nil]
    exact ⟨fun h => ⟨[], rfl, h.symm⟩, fun ⟨s, h, e⟩ => by subst h; exact e.symm⟩
  | c :: l, x => by
    simp only [spn, List.mem_append, List.mem_map]
    constructor
    · rintro (h | ⟨y, h, e⟩)
      · obtain ⟨s, h1, h2⟩ := mem_spn.mp h
        exact ⟨s, h1.cons _, h2⟩
      · obtain ⟨s, h1, h2⟩ := mem_spn.mp h
        exact ⟨c :: s, h1.cons_cons _, by rw [← e, ← h2]; rfl⟩
    · rintro ⟨s, h, e⟩
      rcases List.sublist_cons_iff.mp h with h | ⟨r, e2, h⟩
      · exact .inl (mem_spn.mpr ⟨s, h, e⟩)
      · exact .inr ⟨xs r, mem_spn.mpr ⟨r, h, rfl⟩, by rw [← e, e2]; rfl⟩
theorem mem_spn_perm {l l' : List Nat} (h : l.Perm l') {x : Nat} (q : x ∈ spn l) : x ∈ spn l' := by
  obtain ⟨s, h1, h2⟩ := mem_spn.mp q
  obtain ⟨t, h3, h4⟩ := List.exists_perm_sublist h1 h
  exact mem_spn.mpr ⟨t, h4, by rw [xs_perm h3, h2]⟩
theorem xor_cancel (a b : Nat) : a ^^^ (a ^^^ b) = b := by rw [← Nat.xor_assoc, Nat.xor_self, Nat.zero_xor]
theorem spn_zero : ∀ (l : List Nat), 0 ∈ spn l
  | [] => List.mem_singleton.mpr rfl
  | c :: l => List.mem_append_left _ (spn_zero l)
theorem mem_spn_cons {c : Nat} {l : List Nat} {x : Nat} : x ∈ spn (c :: l) ↔ x ∈ spn l ∨ x ^^^ c ∈ spn l := by
  simp only [spn, List.mem_append, List.mem_map]
  constructor
  · rintro (h | ⟨y, h, e⟩)
    · exact .inl h
    · exact .inr (by rw [← e, Nat.xor_comm, xor_cancel]; exact h)
  · rintro (h | h)
    · exact .inl h
    · exact .inr ⟨_, h, by rw [Nat.xor_comm x, xor_cancel]⟩
theorem spn_xor : ∀ {l : List Nat} {x y : Nat}, x ∈ spn l → y ∈ spn l → x ^^^ y ∈ spn l
  | [], x, y, h, g => by
    simp only [spn, List.mem_singleton] at h g ⊢
    subst h g; rfl
  | c :: l, x, y, h, g => by
    rw [mem_spn_cons] at h g ⊢
    rcases h with h | h <;> rcases g with g | g
    · exact .inl (spn_xor h g)
    · exact .inr (by rw [Nat.xor_assoc]; exact spn_xor h g)
    · exact .inr (by rw [Nat.xor_assoc, Nat.xor_comm y, ← Nat.xor_assoc]; exact spn_xor h g)
    · refine .inl ?_
      have := spn_xor h g
      rwa [Nat.xor_assoc, Nat.xor_comm y c, xor_cancel] at this
theorem spn_len : ∀ (l : List Nat), (spn l).length = 2 ^ l.length
  | [] => rfl
  | c :: l => by
    simp only [spn, List.length_append, List.length_map, List.length_cons]
    rw [spn_len l, Nat.pow_succ]; omega
theorem Fre.sub {l l' : List Nat} (h : Fre l') (s : l.Sublist l') : Fre l := fun t q => h t (q.trans s)
theorem Fre.perm {l l' : List Nat} (h : Fre l) (p : l.Perm l') : Fre l' := fun t q e => by
  obtain ⟨u, h1, h2⟩ := List.exists_perm_sublist q p.symm
  have := h u h2 (by rw [xs_perm h1]; exact e)
  subst this
  exact h1.symm.eq_nil
theorem fre_cons {c : Nat} {l : List Nat} : Fre (c :: l) ↔ Fre l ∧ c ∉ spn l := by
  constructor
  · intro h
    refine ⟨h.sub (List.sublist_cons_self _ _), fun q => ?_⟩
    obtain ⟨s, h1, h2⟩ := mem_spn.mp q
    have := h (c :: s) (h1.cons_cons _) (by show c ^^^ xs s = 0; rw [h2, Nat.xor_self])
    cases this
  · rintro ⟨h, g⟩ s q e
    rcases List.sublist_cons_iff.mp q with q2 | ⟨r, e2, q2⟩
    · exact h s q2 e
    · subst e2
      refine absurd (mem_spn.mpr ⟨r, q2, ?_⟩) g
      have e : c ^^^ xs r = 0 := e
      rw [← xor_cancel c (xs r), e, Nat.xor_zero]
theorem nd_mapx {l : List Nat} (c : Nat) (h : l.Nodup) : (l.map (c ^^^ ·)).Nodup := nd_map h fun x y _ _ e => by
  rw [← xor_cancel c x, ← xor_cancel c y]; exact congrArg _ e
theorem Fre.nd : ∀ {l : List Nat}, Fre l → (spn l).Nodup
  | [], _ => by simp [spn]
  | c :: l, h => by
    obtain ⟨h1, h2⟩ := fre_cons.mp h
    refine List.nodup_append.mpr ⟨Fre.nd h1, nd_mapx c (Fre.nd h1), fun a ha b hb e => h2 ?_⟩
    obtain ⟨y, hy, e2⟩ := List.mem_map.mp hb
    have := spn_xor ha hy
    rwa [e, ← e2, Nat.xor_assoc, Nat.xor_self, Nat.xor_zero] at this
theorem spn_in {l : List Nat} : ∀ {l' : List Nat}, (∀ c, c ∈ l' → c ∈ spn l) → ∀ x, x ∈ spn l' → x ∈ spn l
  | [], _, x, q => by rw [List.mem_singleton.mp q]; exact spn_zero l
  | c :: l', h, x, q => by
    rcases mem_spn_cons.mp q with q | q
    · exact spn_in (fun c hc => h c (List.mem_cons_of_mem _ hc)) x q
    · have := spn_xor (spn_in (fun c hc => h c (List.mem_cons_of_mem _ hc)) _ q) (h c List.mem_cons_self)
      rwa [Nat.xor_assoc, Nat.xor_self, Nat.xor_zero] at this
theorem spn_own {l : List Nat} {c : Nat} (h : c ∈ l) : c ∈ spn l := mem_spn.mpr ⟨[c], List.singleton_sublist.mpr h, by show c ^^^ 0 = c; exact Nat.xor_zero c⟩
theorem li_cols (col : Nat → Nat) : LInd fun l => Fre (l.map col) where
  nil s h _ := List.sublist_nil.mp h
  perm l l' p q := q.perm (p.map _)
  sub l l' s q := q.sub (s.map _)
  aug l l' hl hl' q q' c := Classical.byContradiction fun z => by
    have := q'.nd.length_le_of_subset (l₂ := spn (l.map col)) fun x hx => spn_in (fun c hc => by
      obtain ⟨t, ht, e⟩ := List.mem_map.mp hc
      subst e
      by_cases w : t ∈ l
      · exact spn_own (List.mem_map.mpr ⟨t, w, rfl⟩)
      · refine Classical.byContradiction fun y => z ⟨t, ht, w, ?_⟩
        show Fre ((t :: l).map col)
        rw [List.map_cons]
        exact fre_cons.mpr ⟨q, y⟩) x hx
    rw [spn_len, spn_len, List.length_map, List.length_map] at this
    exact absurd (Nat.pow_lt_pow_right (a := 2) (by decide) c) (by omega)
/-- told place by place -/
def goC (col : Nat → Nat) : List Nat → List Nat → Bool
  | [], _ => true
  | k :: l, s => if col k ∈ s then false else goC col l (s ++ s.map fun x => x ^^^ col k)
theorem goC_iff (col : Nat → Nat) : ∀ (l p s : List Nat), Fre p → (∀ x, x ∈ s ↔ x ∈ spn p) → (goC col l s = true ↔ Fre (l.map col ++ p))
  | [], p, s, h, _ => ⟨fun _ => h, fun _ => rfl⟩
  | k :: l, p, s, h, hs => by
    unfold goC
    by_cases e : col k ∈ s
    · rw [if_pos e]
      refine ⟨fun q => Bool.noConfusion q, fun q => ?_⟩
      have : Fre (col k :: p) := q.sub (by
        rw [List.map_cons, List.cons_append]
        exact (List.sublist_append_right _ _).cons_cons _)
      exact absurd ((hs _).mp e) (fre_cons.mp this).2
    · rw [if_neg e]
      have hf : Fre (col k :: p) := fre_cons.mpr ⟨h, fun q => e ((hs _).mpr q)⟩
      rw [goC_iff col l (col k :: p) _ hf fun x => by
        rw [mem_spn_cons, List.mem_append, List.mem_map, hs]
        constructor
        · rintro (q | ⟨y, q, e⟩)
          · exact .inl q
          · exact .inr (by rw [← e, Nat.xor_assoc, Nat.xor_self, Nat.xor_zero]; exact (hs _).mp q)
        · rintro (q | q)
          · exact .inl q
          · exact .inr ⟨_, (hs _).mpr q, by rw [Nat.xor_assoc, Nat.xor_self, Nat.xor_zero]⟩]
      have p1 : (l.map col ++ col k :: p).Perm ((k :: l).map col ++ p) := by
        rw [List.map_cons, List.cons_append]
        exact List.perm_middle
      exact ⟨fun q => q.perm p1, fun q => q.perm p1.symm⟩

/-! ### edges -/
def par (J : Nat → Nat) (l x : Nat) : Nat → Bool
  | 0 => false
  | k + 1 => par J l x k ^^ (decide (J k = l) && x.testBit k)
theorem par_xor (J : Nat → Nat) (l x y : Nat) : ∀ k, par J l (x ^^^ y) k = (par J l x k ^^ par J l y k)
  | 0 => rfl
  | k + 1 => by
    simp only [par, par_xor J l x y k, Nat.testBit_xor]
    cases par J l x k <;> cases par J l y k <;> cases decide (J k = l) <;> cases x.testBit k <;> cases y.testBit k <;> rfl
theorem par_pow (J : Nat → Nat) (l u : Nat) : ∀ k, par J l (2 ^ u) k = (decide (u < k) && decide (J u = l))
  | 0 => by simp [par]
  | k + 1 => by
    simp only [par, par_pow J l u k, Nat.testBit_two_pow]
    by_cases e : u = k
    · subst e; simp
    · by_cases h : u < k
      · have : u < k + 1 := by omega
        simp [e, h, this]
      · have : ¬ u < k + 1 := by omega
        simp [e, h, this]
theorem par_join (J : Nat → Nat) (near far x : Nat) (h : near ≠ far) (l : Nat) : ∀ k, par (fun u => if J u = far then near else J u) l x k = if l = near then (par J near x k ^^ par J far x k) else if l = far then false else par J l x k
  | 0 => by simp [par]
  | k + 1 => by
    simp only [par, par_join J near far x h l k]
    by_cases e1 : l = near
    · subst e1
      simp only [if_true]
      by_cases q : J k = far
      · have : ¬ far = l := fun z => h z.symm
        simp [q, this]
      · simp [q]
        cases par J l x k <;> cases par J far x k <;> simp
    · simp only [e1, if_false]
      by_cases e2 : l = far
      · subst e2
        simp only [if_true]
        by_cases q : J k = l
        · simp [q, h]
        · simp [q]
      · simp only [e2, if_false]
        by_cases q : J k = far
        · have h1 : ¬ near = l := fun z => e1 z.symm
          have h2 : ¬ far = l := fun z => e2 z.symm
          simp [q, h1, h2]
        · simp [q]
theorem par_id (l x : Nat) : ∀ k, par (fun u => u) l x k = (decide (l < k) && x.testBit l)
  | 0 => by simp [par]
  | k + 1 => by
    simp only [par, par_id l x k]
    by_cases e : k = l
    · subst e; simp
    · by_cases h : l < k
      · have : l < k + 1 := by omega
        simp [e, h, this]
      · have : ¬ l < k + 1 := by omega
        simp [e, h, this]
/-- the labels of 8 vertices tell what the edges span -/
def Lab (J : Nat → Nat) (p : List Nat) : Prop := ∀ x, x < 2 ^ 8 → (x ∈ spn p ↔ ∀ l, par J l x 8 = false)
theorem lab_id : Lab (fun u => u) [] := fun x hx => by
  simp only [spn, List.mem_singleton, par_id]
  constructor
  · intro e; subst e; intro l; simp
  · intro h
    refine Nat.eq_of_testBit_eq fun i => ?_
    rw [Nat.zero_testBit]
    cases e : x.testBit i with
    | false => rfl
    | true =>
      have := h i
      rw [decide_eq_true (sub_lt hx e), e] at this
      cases this
theorem edge_lt {u v : Nat} (hu : u < 8) (hv : v < 8) : 2 ^ u ^^^ 2 ^ v < 2 ^ 8 := Nat.xor_lt_two_pow (Nat.pow_lt_pow_right (by decide) hu) (Nat.pow_lt_pow_right (by decide) hv)
theorem par_edge (J : Nat → Nat) {u v : Nat} (hu : u < 8) (hv : v < 8) (l : Nat) : par J l (2 ^ u ^^^ 2 ^ v) 8 = (decide (J u = l) ^^ decide (J v = l)) := by
  rw [par_xor, par_pow, par_pow, decide_eq_true hu, decide_eq_true hv]; rfl
theorem lab_eq {J : Nat → Nat} {p : List Nat} (h : Lab J p) {u v : Nat} (hu : u < 8) (hv : v < 8) : J u = J v ↔ 2 ^ u ^^^ 2 ^ v ∈ spn p := by
  rw [h _ (edge_lt hu hv)]
  constructor
  · intro e l; rw [par_edge J hu hv, e]; simp
  · intro q
    have := q (J u)
    rw [par_edge J hu hv, decide_eq_true rfl] at this
    simp at this
    exact this.symm
theorem lab_join {J : Nat → Nat} {p : List Nat} (h : Lab J p) {a b : Nat} (ha : a < 8) (hb : b < 8) (ne : J a ≠ J b) : Lab (fun u => if J u = J b then J a else J u) ((2 ^ a ^^^ 2 ^ b) :: p) := fun x hx => by
  have hx2 : x ^^^ (2 ^ a ^^^ 2 ^ b) < 2 ^ 8 := Nat.xor_lt_two_pow hx (edge_lt ha hb)
  rw [mem_spn_cons, h x hx, h _ hx2]
  have pe := fun l => par_edge J ha hb l
  simp only [par_join J (J a) (J b) x ne, par_xor J _ x, pe]
  constructor
  · rintro (q | q) l
    · by_cases e1 : l = J a
      · simp [e1, q]
      · by_cases e2 : l = J b <;> simp [e1, e2, q]
    · by_cases e1 : l = J a
      · have q1 := q (J a)
        have q2 := q (J b)
        have : ¬ J b = J a := fun z => ne z.symm
        simp [this] at q1
        simp [ne] at q2
        simp [e1, q1, q2]
      · by_cases e2 : l = J b
        · have : ¬ J b = J a := fun z => ne z.symm
          simp [e2, this]
        · have := q l
          have z1 : ¬ J a = l := fun z => e1 z.symm
          have z2 : ¬ J b = l := fun z => e2 z.symm
          simp [z1, z2] at this
          simp [e1, e2, this]
  · intro q
    have qa := q (J a)
    simp at qa
    by_cases t : par J (J a) x 8 = false
    · refine .inl fun l => ?_
      by_cases e1 : l = J a
      · rw [e1]; exact t
      · by_cases e2 : l = J b
        · rw [e2, ← qa]; exact t
        · have := q l
          simpa [e1, e2] using this
    · have t := eq_true_of_ne_false t
      refine .inr fun l => ?_
      by_cases e1 : l = J a
      · have : ¬ J b = J a := fun z => ne z.symm
        rw [e1, t]; simp [this]
      · by_cases e2 : l = J b
        · rw [e2, ← qa, t]; simp [ne]
        · have z1 : ¬ J a = l := fun z => e1 z.symm
          have z2 : ¬ J b = l := fun z => e2 z.symm
          have := q l
          simp [e1, e2] at this
          simp [z1, z2, this]
/-- told place by place -/
def goE (ed : Nat → Nat × Nat) : List Nat → (Nat → Nat) → Bool
  | [], _ => true
  | k :: l, J => if J (ed k).1 = J (ed k).2 then false else goE ed l fun u => if J u = J (ed k).2 then J (ed k).1 else J u
def ecol (ed : Nat → Nat × Nat) (k : Nat) : Nat := 2 ^ (ed k).1 ^^^ 2 ^ (ed k).2
theorem goE_iff {ed : Nat → Nat × Nat} (he : ∀ k, (ed k).1 < 8 ∧ (ed k).2 < 8) : ∀ (l : List Nat) (p : List Nat) (J : Nat → Nat), Fre p → Lab J p → (goE ed l J = true ↔ Fre (l.map (ecol ed) ++ p))
  | [], p, J, h, _ => ⟨fun _ => h, fun _ => rfl⟩
  | k :: l, p, J, h, hL => by
    unfold goE
    have q0 := lab_eq hL (he k).1 (he k).2
    by_cases e : J (ed k).1 = J (ed k).2
    · rw [if_pos e]
      refine ⟨fun q => Bool.noConfusion q, fun q => ?_⟩
      have : Fre (ecol ed k :: p) := q.sub (by
        rw [List.map_cons, List.cons_append]
        exact (List.sublist_append_right _ _).cons_cons _)
      exact absurd (q0.mp e) (fre_cons.mp this).2
    · rw [if_neg e]
      have hf : Fre (ecol ed k :: p) := fre_cons.mpr ⟨h, fun q => e (q0.mpr q)⟩
      rw [goE_iff he l (ecol ed k :: p) _ hf (lab_join hL (he k).1 (he k).2 e)]
      have p1 : (l.map (ecol ed) ++ ecol ed k :: p).Perm ((k :: l).map (ecol ed) ++ p) := by
        rw [List.map_cons, List.cons_append]
        exact List.perm_middle
      exact ⟨fun q => q.perm p1, fun q => q.perm p1.symm⟩
end PL

/-! DP: the plain side of the typed layer: lists by place, loops, masks. -/
namespace DL
open PL
theorem nth_ge {α : Type} [Inhabited α] {l : List α} {i : Nat} (h : l.length ≤ i) : nth l i = default := by
  unfold nth; rw [List.getD_eq_getElem?_getD, List.getElem?_eq_none h]; rfl
theorem nth_get? {α : Type} [Inhabited α] {l : List α} {i : Nat} {x : α} (h : l[i]? = some x) : nth l i = x := by
  unfold nth; rw [List.getD_eq_getElem?_getD, h]; rfl
theorem nth_append_l {α : Type} [Inhabited α] {l m : List α} {i : Nat} (h : i < l.length) : nth (l ++ m) i = nth l i := by
  rw [nth_lt h, nth_lt (by rw [List.length_append]; omega), List.getElem_append_left h]
theorem nth_append_n {α : Type} [Inhabited α] {l : List α} {x : α} : nth (l ++ [x]) l.length = x := nth_get? (by simp)
theorem nth_mem {α : Type} [Inhabited α] {l : List α} {i : Nat} (h : i < l.length) : nth l i ∈ l := by
  rw [nth_lt h]; exact List.getElem_mem h
theorem nth_set {α : Type} [Inhabited α] {l : List α} {i j : Nat} {x : α} (h : i < l.length) : nth (l.set i x) j = if j = i then x else nth l j := by
  by_cases e : j = i
  · subst e; rw [if_pos rfl]; exact nth_get? (by rw [List.getElem?_set_self h])
  · rw [if_neg e]
    unfold nth
    rw [List.getD_eq_getElem?_getD, List.getD_eq_getElem?_getD, List.getElem?_set_ne (Ne.symm e)]
theorem nth_map {α β : Type} [Inhabited α] [Inhabited β] {l : List α} {f : α → β} {i : Nat} (h : i < l.length) : nth (l.map f) i = f (nth l i) := by
  rw [nth_lt h, nth_lt (by rw [List.length_map]; exact h), List.getElem_map]
theorem nth_range {n i : Nat} (h : i < n) : nth (List.range n) i = i := nth_get? (by rw [List.getElem?_range h])
theorem nth_repl {α : Type} [Inhabited α] {n i : Nat} {x : α} (h : i < n) : nth (List.replicate n x) i = x := nth_get? (by rw [List.getElem?_replicate, if_pos h])
theorem las_eq {α : Type} [Inhabited α] {l : List α} {n : Nat} (h : l.length = n) : las l = nth l (n - 1) := by unfold las; rw [h]
theorem mem_nth {α : Type} [Inhabited α] {l : List α} {x : α} : x ∈ l ↔ ∃ i, i < l.length ∧ nth l i = x := by
  constructor
  · intro h
    obtain ⟨i, h1, h2⟩ := List.getElem_of_mem h
    exact ⟨i, h1, by rw [nth_lt h1]; exact h2⟩
  · rintro ⟨i, h1, h2⟩; rw [← h2]; exact nth_mem h1
theorem ext_nth {α : Type} [Inhabited α] {l m : List α} (h : l.length = m.length) (e : ∀ i, i < l.length → nth l i = nth m i) : l = m := by
  refine List.ext_getElem h fun i h1 h2 => ?_
  have := e i h1
  rwa [nth_lt h1, nth_lt h2] at this
theorem enm_mem {α : Type} [Inhabited α] {l : List α} {x : Nat × α} : x ∈ enm l ↔ x.1 < l.length ∧ nth l x.1 = x.2 := by
  rw [List.mem_iff_getElem?]
  constructor
  · rintro ⟨i, h⟩
    rw [enm_get] at h
    cases q : l[i]? with
    | none => rw [q] at h; cases h
    | some y =>
      rw [q] at h
      cases h
      obtain ⟨h1, h2⟩ := List.getElem?_eq_some_iff.mp q
      exact ⟨h1, nth_get? q⟩
  · rintro ⟨h1, h2⟩
    refine ⟨x.1, ?_⟩
    rw [enm_get, List.getElem?_eq_getElem h1, ← nth_lt h1, h2]; rfl
theorem enm_eq {α : Type} [Inhabited α] (l : List α) : enm l = (List.range l.length).map fun i => (i, nth l i) := by
  refine List.ext_getElem? fun i => ?_
  rw [enm_get, List.getElem?_map]
  by_cases h : i < l.length
  · rw [List.getElem?_range h, List.getElem?_eq_getElem h, ← nth_lt h]; rfl
  · rw [List.getElem?_eq_none (l := List.range l.length) (by rw [List.length_range]; omega), List.getElem?_eq_none (l := l) (by omega)]; rfl
/-! ### loops -/
theorem fold_inv {S α : Type} {ok : S → α → Prop} {f : S → α → S} (Inv : Nat → S → Prop) : ∀ (l : List α) (s0 : S) (j : Nat), Inv j s0 → (∀ i x s, l[i]? = some x → Inv (j + i) s → ok s x ∧ Inv (j + i + 1) (f s x)) → okF ok f l s0 ∧ Inv (j + l.length) (l.foldl f s0)
  | [], s0, j, h0, _ => ⟨trivial, h0⟩
  | x :: l, s0, j, h0, hs => by
    obtain ⟨h1, h2⟩ := hs 0 x s0 rfl h0
    obtain ⟨h3, h4⟩ := fold_inv Inv l (f s0 x) (j + 1) h2 fun i y s hy q => by
      have := hs (i + 1) y s (by simpa using hy) (by rw [show j + (i + 1) = j + 1 + i by omega]; exact q)
      rwa [show j + (i + 1) + 1 = j + 1 + i + 1 by omega] at this
    exact ⟨⟨h1, h3⟩, by rw [List.length_cons, show j + (l.length + 1) = j + 1 + l.length by omega]; exact h4⟩
theorem fold_inv0 {S α : Type} {ok : S → α → Prop} {f : S → α → S} (Inv : Nat → S → Prop) (l : List α) (s0 : S) (h0 : Inv 0 s0) (hs : ∀ i x s, l[i]? = some x → Inv i s → ok s x ∧ Inv (i + 1) (f s x)) : okF ok f l s0 ∧ Inv l.length (l.foldl f s0) := by
  have := fold_inv Inv l s0 0 h0 fun i x s h q => by rw [Nat.zero_add] at q ⊢; exact hs i x s h q
  rwa [Nat.zero_add] at this
/-- a plain loop's invariant, by members -/
theorem fold_mem {S α : Type} {ok : S → α → Prop} {f : S → α → S} (Inv : S → Prop) : ∀ (l : List α) (s0 : S), Inv s0 → (∀ x s, x ∈ l → Inv s → ok s x ∧ Inv (f s x)) → okF ok f l s0 ∧ Inv (l.foldl f s0)
  | [], s0, h0, _ => ⟨trivial, h0⟩
  | x :: l, s0, h0, hs => by
    obtain ⟨h1, h2⟩ := hs x s0 List.mem_cons_self h0
    obtain ⟨h3, h4⟩ := fold_mem Inv l (f s0 x) h2 fun y s hy q => hs y s (List.mem_cons_of_mem _ hy) q
    exact ⟨⟨h1, h3⟩, h4⟩
theorem rg_get {n i x : Nat} (h : (List.range n)[i]? = some x) : x = i ∧ i < n := by
  obtain ⟨h1, h2⟩ := List.getElem?_eq_some_iff.mp h
  rw [List.length_range] at h1
  rw [List.getElem_range] at h2
  exact ⟨h2.symm, h1⟩
theorem rgN_get {a n i x : Nat} (h : (rgN a n)[i]? = some x) : x = a + i ∧ a + i < n := by
  unfold rgN at h
  rw [List.getElem?_map] at h
  cases q : (List.range (n - a))[i]? with
  | none => rw [q] at h; cases h
  | some y =>
    rw [q] at h
    obtain ⟨e, l⟩ := rg_get q
    subst e
    cases h
    exact ⟨rfl, by omega⟩
theorem dnN_get {n i x : Nat} (h : (dnN n)[i]? = some x) : x = n - 1 - i ∧ i < n := by
  unfold dnN at h
  rw [List.getElem?_map] at h
  cases q : (List.range n)[i]? with
  | none => rw [q] at h; cases h
  | some y =>
    rw [q] at h
    obtain ⟨e, l⟩ := rg_get q
    subst e
    cases h
    exact ⟨rfl, l⟩
theorem rgN_len (a n : Nat) : (rgN a n).length = n - a := by unfold rgN; rw [List.length_map, List.length_range]
theorem dnN_len (n : Nat) : (dnN n).length = n := by unfold dnN; rw [List.length_map, List.length_range]
theorem loopC_go {S R α : Type} {f : S → α → Ct S R} {x : α} {l : List α} {s s2 : S} (h : f s x = .go s2) : loopC f (x :: l) s = loopC f l s2 := by
  show (match f s x with | .go s2 => loopC f l s2 | .bk s2 => .go s2 | .rt r => .rt r) = _
  rw [h]
theorem loopC_rt {S R α : Type} {f : S → α → Ct S R} {x : α} {l : List α} {s : S} {r : R} (h : f s x = .rt r) : loopC f (x :: l) s = .rt r := by
  show (match f s x with | .go s2 => loopC f l s2 | .bk s2 => .go s2 | .rt r => .rt r) = _
  rw [h]
/-! ### masks -/
theorem shl_one (n : Nat) : 1 <<< n = 2 ^ n := by rw [Nat.shiftLeft_eq, Nat.one_mul]
theorem two10 {n : Nat} (h : n ≤ 10) : 2 ^ n ≤ 1024 := Nat.pow_le_pow_right (by decide) h
theorem bit_and (m i : Nat) : decide ((m >>> i) &&& 1 = 1) = m.testBit i := by
  rw [Nat.testBit_eq_decide_div_mod_eq, Nat.shiftRight_eq_div_pow, Nat.and_one_is_mod]
theorem card_low : ∀ (n m : Nat), card (n + 1) m = m % 2 + card n (m / 2)
  | 0, m => by
    simp only [card, Nat.testBit_eq_decide_div_mod_eq]
    by_cases h : m % 2 = 1
    · simp [h]
    · have : m % 2 = 0 := by omega
      simp [this]
  | n + 1, m => by
    have := card_low n m
    rw [card, this]
    rw [show m.testBit (n + 1) = (m / 2).testBit n by rw [Nat.testBit_succ]]
    simp only [card]; omega
theorem pop_eq (m : Nat) : pop m = if m = 0 then 0 else m % 2 + pop (m / 2) := by
  cases m with
  | zero => rfl
  | succ k =>
    rw [if_neg (Nat.succ_ne_zero k)]
    show popF (k + 1) (k + 1) = _
    unfold popF
    rw [if_neg (Nat.succ_ne_zero k)]
    unfold pop
    rw [popF_eq (k := k) (j := (k + 1) / 2) (by omega) (Nat.le_refl _)]
theorem pop_card : ∀ (n m : Nat), m < 2 ^ n → pop m = card n m
  | 0, m, h => by
    have : m = 0 := by rw [Nat.pow_zero] at h; omega
    subst this; rfl
  | n + 1, m, h => by
    rw [card_low, pop_eq]
    by_cases e : m = 0
    · subst e; simp [card_zero]
    · rw [if_neg e, pop_card n (m / 2) (by rw [Nat.pow_succ] at h; omega)]
theorem bits_sum : ∀ (n m : Nat), m < 2 ^ n → ((mem n m).map (2 ^ ·)).sum = m
  | 0, m, h => by
    have : m = 0 := by rw [Nat.pow_zero] at h; omega
    subst this; rfl
  | n + 1, m, h => by
    have e : mem (n + 1) m = mem n m ++ if m.testBit n then [n] else [] := by
      unfold mem
      rw [List.range_succ, List.filter_append, List.filter_cons, List.filter_nil]
    rw [e]
    by_cases q : m.testBit n = true
    · rw [if_pos q, List.map_append, List.sum_append]
      have q2 := del_lt q
      have l : m ^^^ 2 ^ n < 2 ^ n := Nat.lt_pow_two_of_testBit _ fun i hi => by
        rw [bit_del q]
        by_cases z : n = i
        · simp [z]
        · rw [Nat.testBit_lt_two_pow (Nat.lt_of_lt_of_le h (Nat.pow_le_pow_right (by decide) (by omega)))]; rfl
      have e2 : mem n m = mem n (m ^^^ 2 ^ n) := by
        unfold mem
        refine List.filter_congr fun i hi => ?_
        rw [List.mem_range] at hi
        rw [bit_del q, decide_eq_false (by omega)]; simp
      rw [e2, bits_sum n _ l]
      simp only [List.map_cons, List.map_nil, List.sum_cons, List.sum_nil]
      have : (m ^^^ 2 ^ n) + 2 ^ n = (m ^^^ 2 ^ n) ||| 2 ^ n := by
        have := Nat.two_pow_add_eq_or_of_lt l 1
        rw [Nat.mul_one] at this
        rw [Nat.or_comm, ← this, Nat.add_comm]
      rw [Nat.add_zero, this, del_add q]
    · have q := eq_false_of_ne_true q
      rw [if_neg (by rw [q]; exact Bool.false_ne_true), List.append_nil]
      refine bits_sum n m (Nat.lt_pow_two_of_testBit _ fun i hi => ?_)
      rcases Nat.lt_or_eq_of_le hi with z | z
      · exact Nat.testBit_lt_two_pow (Nat.lt_of_lt_of_le h (Nat.pow_le_pow_right (by decide) z))
      · rw [← z]; exact q
theorem mem_lt {n m i : Nat} (h : i ∈ mem n m) : i < n := (mem_iff.mp h).1
theorem mem_ne {n m : Nat} (h : m < 2 ^ n) (e : m ≠ 0) : mem n m ≠ [] := fun q => by
  obtain ⟨i, hi⟩ := ex_bit e
  have : i ∈ mem n m := mem_iff.mpr ⟨sub_lt h hi, hi⟩
  rw [q] at this; cases this
theorem add_pow {m i : Nat} (h : m.testBit i = true) : (m ^^^ 2 ^ i) + 2 ^ i = m := by
  have hm : m < 2 ^ (m + i + 1) := Nat.lt_of_lt_of_le Nat.lt_two_pow_self (Nat.pow_le_pow_right (by decide) (by omega))
  have e1 := bits_sum (m + i + 1) m hm
  have e2 := bits_sum (m + i + 1) (m ^^^ 2 ^ i) (Nat.lt_trans (del_lt h) hm)
  have p := mem_add (n := m + i + 1) (a := m ^^^ 2 ^ i) (i := i) (by omega) (by rw [bit_del h]; simp)
  rw [del_add h] at p
  have p2 := (p.map (2 ^ ·)).sum_nat
  rw [e1, List.map_cons, List.sum_cons, e2] at p2
  omega
theorem sub_pow {m i : Nat} (h : m.testBit i = true) : m - 2 ^ i = m ^^^ 2 ^ i := by
  have := add_pow h
  omega
end DL

/-! DQ: orders, least ones, sorted lists. -/
namespace DL
open PL
structure SO {α : Type} (lt : α → α → Bool) : Prop where
  irr : ∀ a, lt a a = false
  tr : ∀ a b c, lt a b = true → lt b c = true → lt a c = true
  tot : ∀ a b, lt a b = false → lt b a = false → a = b
theorem so_nat : SO ltN where
  irr a := decide_eq_false (Nat.lt_irrefl a)
  tr a b c h g := by rw [decide_eq_true_eq] at *; omega
  tot a b h g := by rw [decide_eq_false_iff_not] at *; omega
theorem so_lex {α : Type} [DecidableEq α] {lt : α → α → Bool} (h : SO lt) : SO (lexL lt) where
  irr l := by
    induction l with
    | nil => rfl
    | cons x l ih => unfold lexL; rw [if_pos rfl]; exact ih
  tr a := by
    induction a with
    | nil => intro b c h1 h2; cases c with
      | nil => cases b <;> simp [lexL] at h2
      | cons z c => rfl
    | cons x a ih =>
      intro b c h1 h2
      cases b with
      | nil => simp [lexL] at h1
      | cons y b =>
        cases c with
        | nil => simp [lexL] at h2
        | cons z c =>
          unfold lexL at h1 h2 ⊢
          by_cases e1 : x = y
          · subst e1
            rw [if_pos rfl] at h1
            by_cases e2 : x = z
            · subst e2; rw [if_pos rfl] at h2 ⊢; exact ih b c h1 h2
            · rw [if_neg e2] at h2 ⊢; exact h2
          · rw [if_neg e1] at h1
            by_cases e2 : y = z
            · subst e2; rw [if_neg e1]; exact h1
            · rw [if_neg e2] at h2
              by_cases e3 : x = z
              · subst e3
                have := h.tr _ _ _ h1 h2
                rw [h.irr] at this; cases this
              · rw [if_neg e3]; exact h.tr _ _ _ h1 h2
  tot a := by
    induction a with
    | nil => intro b h1 h2; cases b with
      | nil => rfl
      | cons y b => simp [lexL] at h1
    | cons x a ih =>
      intro b h1 h2
      cases b with
      | nil => simp [lexL] at h2
      | cons y b =>
        unfold lexL at h1 h2
        by_cases e1 : x = y
        · subst e1
          rw [if_pos rfl] at h1 h2
          rw [ih b h1 h2]
        · rw [if_neg e1] at h1
          rw [if_neg (Ne.symm e1)] at h2
          exact absurd (h.tot x y h1 h2) e1
section
variable {α : Type} [DecidableEq α] {lt : α → α → Bool}
theorem minT_all (h : SO lt) : ∀ (l : List α) (x : α), DL.minT lt x l ∈ x :: l ∧ ∀ y, y ∈ x :: l → lt y (DL.minT lt x l) = false
  | [], x => ⟨List.mem_singleton.mpr rfl, fun y q => by rw [List.mem_singleton.mp q]; exact h.irr _⟩
  | z :: l, x => by
    have e : DL.minT lt x (z :: l) = DL.minT lt (if lt z x then z else x) l := rfl
    rw [e]
    obtain ⟨h1, h2⟩ := minT_all h l (if lt z x then z else x)
    have le_tr : ∀ {a b c}, lt b a = false → lt c b = false → lt c a = false := fun {a b c} p q => by
      cases r : lt c a with
      | false => rfl
      | true =>
        by_cases w : lt a b = true
        · rw [h.tr _ _ _ r w] at q; cases q
        · have := h.tot _ _ (eq_false_of_ne_true w) p
          subst this; rw [r] at q; cases q
    by_cases q : lt z x = true
    · rw [if_pos q] at h1 h2 ⊢
      refine ⟨List.mem_cons_of_mem _ h1, fun y hy => ?_⟩
      rcases List.mem_cons.mp hy with hy | hy
      · subst hy
        have : lt y z = false := by
          cases r : lt y z with
          | false => rfl
          | true => have := h.tr _ _ _ r q; rw [h.irr] at this; cases this
        exact le_tr (h2 z List.mem_cons_self) this
      · exact h2 y hy
    · rw [if_neg q] at h1 h2 ⊢
      refine ⟨?_, fun y hy => ?_⟩
      · rcases List.mem_cons.mp h1 with h | h
        · rw [h]; exact List.mem_cons_self
        · exact List.mem_cons_of_mem _ (List.mem_cons_of_mem _ h)
      · rcases List.mem_cons.mp hy with hy | hy
        · subst hy; exact h2 y List.mem_cons_self
        · rcases List.mem_cons.mp hy with hy | hy
          · subst hy; exact le_tr (h2 x List.mem_cons_self) (eq_false_of_ne_true q)
          · exact h2 y (List.mem_cons_of_mem _ hy)
theorem minL_all [Inhabited α] (h : SO lt) {l : List α} (ne : l ≠ []) : minL lt l ∈ l ∧ ∀ y, y ∈ l → lt y (minL lt l) = false := by
  cases l with
  | nil => exact absurd rfl ne
  | cons x l => exact minT_all h l x
theorem srt_mem {l : List α} {x : α} : x ∈ srtL lt l ↔ x ∈ l := (List.mergeSort_perm l (leOf lt)).mem_iff
theorem srt_len (l : List α) : (srtL lt l).length = l.length := (List.mergeSort_perm l (leOf lt)).length_eq
theorem srt_pw (h : SO lt) (l : List α) : (srtL lt l).Pairwise fun a b => lt b a = false := by
  have := List.pairwise_mergeSort (le := leOf lt) (fun a b c p q => by
    simp only [leOf, Bool.not_eq_true'] at p q ⊢
    cases r : lt c a with
    | false => rfl
    | true =>
      by_cases w : lt a b = true
      · rw [h.tr _ _ _ r w] at q; cases q
      · have := h.tot _ _ (eq_false_of_ne_true w) p
        subst this; rw [r] at q; cases q) (fun a b => by
    simp only [leOf]
    cases p : lt b a with
    | false => rfl
    | true =>
      cases q : lt a b with
      | false => rfl
      | true => have := h.tr _ _ _ p q; rw [h.irr] at this; cases this) l
  exact this.imp fun q => by simpa [leOf] using q
theorem srt_nd {l : List α} (h : l.Nodup) : (srtL lt l).Nodup := (List.mergeSort_perm l (leOf lt)).nodup_iff.mpr h
theorem srt_strict (h : SO lt) {l : List α} (nd : l.Nodup) : (srtL lt l).Pairwise fun a b => lt a b = true := by
  have h1 := srt_pw h l
  have h2 := srt_nd (lt := lt) nd
  refine (h1.and h2).imp fun {a b} q => ?_
  cases r : lt a b with
  | true => rfl
  | false => exact absurd (h.tot _ _ r q.1) q.2
/-- the first of the sorted is the least -/
theorem srt_first [Inhabited α] (h : SO lt) {l : List α} (ne : l ≠ []) : 0 < (srtL lt l).length ∧ nth (srtL lt l) 0 = minL lt l := by
  have hl : 0 < (srtL lt l).length := by rw [srt_len]; exact List.length_pos_iff.mpr ne
  refine ⟨hl, ?_⟩
  have hp := srt_pw h l
  obtain ⟨m1, m2⟩ := minL_all h ne
  have n1 : nth (srtL lt l) 0 ∈ l := srt_mem.mp (nth_mem hl)
  refine h.tot _ _ (m2 _ n1) ?_
  cases e : srtL lt l with
  | nil => rw [e] at hl; cases hl
  | cons x r =>
    rw [e] at hp
    have : nth (x :: r) 0 = x := nth_get? rfl
    rw [this]
    have m3 : minL lt l ∈ x :: r := by rw [← e]; exact srt_mem.mpr m1
    rcases List.mem_cons.mp m3 with z | z
    · rw [z]; exact h.irr _
    · exact (List.pairwise_cons.mp hp).1 _ z
theorem minL_congr [Inhabited α] (h : SO lt) {l m : List α} (ne : l ≠ []) (e : ∀ x, x ∈ l ↔ x ∈ m) : minL lt l = minL lt m := by
  have ne2 : m ≠ [] := fun q => by
    obtain ⟨x, hx⟩ := List.exists_mem_of_ne_nil _ ne
    have := (e x).mp hx
    rw [q] at this; cases this
  obtain ⟨a1, a2⟩ := minL_all h ne
  obtain ⟨b1, b2⟩ := minL_all h ne2
  exact h.tot _ _ (b2 _ ((e _).mp a1)) (a2 _ ((e _).mpr b1))
theorem pw_nth [Inhabited α] {R : α → α → Prop} {l : List α} (h : l.Pairwise R) {i j : Nat} (hij : i < j) (hj : j < l.length) : R (nth l i) (nth l j) := by
  rw [nth_lt (Nat.lt_trans hij hj), nth_lt hj]
  exact List.pairwise_iff_getElem.mp h i j _ hj hij
end
end DL

/-! LQ: plain: while loops, the lowest bit, bases and ranks. -/
namespace DL
open PL
/-! ### while -/
theorem whl_inv {S : Type} {okc ok : S → Prop} {c : S → Bool} {f : S → S} (Inv : S → Prop) (μ : S → Nat) (h : ∀ s, Inv s → okc s ∧ (c s = true → ok s ∧ Inv (f s) ∧ μ (f s) < μ s)) (h0 : ∀ s, Inv s → μ s = 0 → c s = false) :
    ∀ (n : Nat) (s : S), Inv s → μ s ≤ n → okW okc ok c f n s ∧ Inv (whl c f n s) ∧ c (whl c f n s) = false
  | 0, s, i, m => by
    have := h0 s i (by omega)
    exact ⟨⟨(h s i).1, this⟩, i, this⟩
  | n + 1, s, i, m => by
    obtain ⟨a, b⟩ := h s i
    by_cases e : c s = true
    · obtain ⟨b1, b2, b3⟩ := b e
      obtain ⟨w1, w2, w3⟩ := whl_inv Inv μ h h0 n (f s) b2 (by omega)
      refine ⟨⟨a, fun _ => ⟨b1, w1⟩⟩, ?_⟩
      unfold whl
      rw [if_pos e]
      exact ⟨w2, w3⟩
    · unfold whl
      rw [if_neg e]
      exact ⟨⟨a, fun z => absurd z e⟩, i, eq_false_of_ne_true e⟩
/-! ### the lowest bit -/
theorem and_pred_half (m : Nat) (h : m % 2 = 0) (h0 : 0 < m) : (m &&& (m - 1)) / 2 = (m / 2) &&& (m / 2 - 1) ∧ (m &&& (m - 1)) % 2 = 0 := by
  constructor
  · rw [Nat.and_div_two, show (m - 1) / 2 = m / 2 - 1 by omega]
  · rw [← Nat.and_one_is_mod, Nat.and_assoc, Nat.and_comm (m - 1) 1, ← Nat.and_assoc, Nat.and_one_is_mod, h, Nat.zero_and]
theorem and_pred_odd (m : Nat) (h : m % 2 = 1) : (m &&& (m - 1)) / 2 = m / 2 ∧ (m &&& (m - 1)) % 2 = 0 := by
  constructor
  · rw [Nat.and_div_two, show (m - 1) / 2 = m / 2 by omega, Nat.and_self]
  · rw [← Nat.and_one_is_mod, Nat.and_assoc, Nat.and_one_is_mod, show (m - 1) % 2 = 0 by omega, Nat.and_zero]
theorem card_drop : ∀ (n m : Nat), 0 < m → m < 2 ^ n → card n (m &&& (m - 1)) + 1 = card n m
  | 0, m, h, q => by rw [Nat.pow_zero] at q; omega
  | n + 1, m, h, q => by
    rw [card_low, card_low n m]
    by_cases e : m % 2 = 0
    · obtain ⟨a, b⟩ := and_pred_half m e h
      rw [a, b, e]
      have := card_drop n (m / 2) (by omega) (by rw [Nat.pow_succ] at q; omega)
      omega
    · obtain ⟨a, b⟩ := and_pred_odd m (by omega)
      rw [a, b, show m % 2 = 1 by omega]
      omega
theorem and_pred_lt {m : Nat} (h : 0 < m) : m &&& (m - 1) < m := Nat.lt_of_le_of_lt Nat.and_le_right (by omega)
theorem card_pos {n m : Nat} (h : 0 < m) (q : m < 2 ^ n) : 0 < card n m := by
  have := card_drop n m h q; omega
/-! ### sorted alike -/
theorem strict_eq {α : Type} {lt : α → α → Bool} (h : SO lt) : ∀ (l m : List α), l.Pairwise (fun a b => lt a b = true) → m.Pairwise (fun a b => lt a b = true) → (∀ x, x ∈ l ↔ x ∈ m) → l = m
  | [], [], _, _, _ => rfl
  | [], y :: m, _, _, e => by have := (e y).mpr List.mem_cons_self; cases this
  | x :: l, [], _, _, e => by have := (e x).mp List.mem_cons_self; cases this
  | x :: l, y :: m, p, q, e => by
    obtain ⟨p1, p2⟩ := List.pairwise_cons.mp p
    obtain ⟨q1, q2⟩ := List.pairwise_cons.mp q
    have xy : x = y := by
      rcases List.mem_cons.mp ((e x).mp List.mem_cons_self) with z | z
      · exact z
      · rcases List.mem_cons.mp ((e y).mpr List.mem_cons_self) with w | w
        · exact w.symm
        · have := h.tr _ _ _ (p1 _ w) (q1 _ z)
          rw [h.irr] at this; cases this
    subst xy
    rw [strict_eq h l m p2 q2 fun z => by
      constructor
      · intro w
        rcases List.mem_cons.mp ((e z).mp (List.mem_cons_of_mem _ w)) with v | v
        · subst v; have := p1 _ w; rw [h.irr] at this; cases this
        · exact v
      · intro w
        rcases List.mem_cons.mp ((e z).mpr (List.mem_cons_of_mem _ w)) with v | v
        · subst v; have := q1 _ w; rw [h.irr] at this; cases this
        · exact v]
theorem srt_same {α : Type} [DecidableEq α] {lt : α → α → Bool} (h : SO lt) {l m : List α} (hl : l.Nodup) (hm : m.Nodup) (e : ∀ x, x ∈ l ↔ x ∈ m) : srtL lt l = srtL lt m :=
  strict_eq h _ _ (srt_strict h hl) (srt_strict h hm) fun x => by rw [srt_mem, srt_mem]; exact e x
end DL
namespace PL
/-! ### bases -/
structure Bs (n : Nat) (F : Nat → Prop) (k : Nat) (bases : List Nat) : Prop where
  ind : Ind n F
  mem : ∀ m, m ∈ bases ↔ m < 2 ^ n ∧ F m ∧ card n m = k
  top : ∀ m, m < 2 ^ n → F m → card n m ≤ k
  ne : bases ≠ []
theorem Bs.ext {n : Nat} {F : Nat → Prop} {k : Nat} {bases : List Nat} (h : Bs n F k bases) : ∀ (j m : Nat), m < 2 ^ n → F m → card n m + j = k → ∃ b, b ∈ bases ∧ Sub m b
  | 0, m, hm, f, e => ⟨m, (h.mem m).mpr ⟨hm, f, by omega⟩, Sub.refl m⟩
  | j + 1, m, hm, f, e => by
    obtain ⟨b, hb⟩ := List.exists_mem_of_ne_nil _ h.ne
    obtain ⟨b1, b2, b3⟩ := (h.mem b).mp hb
    obtain ⟨i, hi, p1, p2, p3⟩ := h.ind.aug m b hm b1 f b2 (by omega)
    have hl : m ||| 2 ^ i < 2 ^ n := Nat.or_lt_two_pow hm (Nat.pow_lt_pow_right (by decide) hi)
    obtain ⟨c, c1, c2⟩ := Bs.ext h j (m ||| 2 ^ i) hl p3 (by rw [card_add hi p2]; omega)
    exact ⟨c, c1, (Sub.orl _ _).trans c2⟩
/-- the greatest meeting with a base -/
structure MaxM (n : Nat) (bases : List Nat) (m v : Nat) : Prop where
  ex : ∃ b, b ∈ bases ∧ card n (m &&& b) = v
  le : ∀ b, b ∈ bases → card n (m &&& b) ≤ v
theorem Bs.yes {n : Nat} {F : Nat → Prop} {k : Nat} {bases : List Nat} (h : Bs n F k bases) {m v : Nat} (hm : m < 2 ^ n) (f : F m) (q : MaxM n bases m v) : v = card n m := by
  obtain ⟨b, b1, b2⟩ := h.ext (k - card n m) m hm f (by have := h.top m hm f; omega)
  obtain ⟨c, c1, c2⟩ := q.ex
  have h1 := q.le b b1
  rw [show m &&& b = m from (Sub.andl m b).antisymm fun i z => by rw [Nat.testBit_and, z, b2 i z]; rfl] at h1
  have := card_mono (n := n) (Sub.andl m c)
  omega
theorem MaxM.mono {n : Nat} {bases : List Nat} {a b v w : Nat} (s : Sub a b) (h : MaxM n bases a v) (g : MaxM n bases b w) : v ≤ w := by
  obtain ⟨c, c1, c2⟩ := h.ex
  have := g.le c c1
  have : card n (a &&& c) ≤ card n (b &&& c) := card_mono fun i z => by
    rw [Nat.testBit_and] at z ⊢
    rw [Bool.and_eq_true] at z ⊢
    exact ⟨s i z.1, z.2⟩
  omega
theorem Bs.no {n : Nat} {F : Nat → Prop} {k : Nat} {bases : List Nat} (h : Bs n F k bases) {m v : Nat} (hm : m < 2 ^ n) (f : ¬ F m) (q : MaxM n bases m v) : ∃ i, m.testBit i = true ∧ ∀ w, MaxM n bases (m ^^^ 2 ^ i) w → w = v := by
  obtain ⟨b, b1, b2⟩ := q.ex
  obtain ⟨p1, p2, p3⟩ := (h.mem b).mp b1
  have fm : F (m &&& b) := h.ind.her _ b p1 (Sub.andr _ _) p2
  have ne : m &&& b ≠ m := fun z => f (z ▸ fm)
  obtain ⟨i, hi, hn⟩ := ne_ex (Sub.andl m b) ne
  refine ⟨i, hi, fun w hw => ?_⟩
  have h1 := MaxM.mono (del_sub hi) hw q
  have h2 := hw.le b b1
  rw [show (m ^^^ 2 ^ i) &&& b = m &&& b from Nat.eq_of_testBit_eq fun j => by
    rw [Nat.testBit_and, Nat.testBit_and, bit_del hi]
    by_cases z : i = j
    · subst z
      rw [Nat.testBit_and, hi] at hn
      have hn : b.testBit i = false := by simpa using hn
      simp [hn]
    · simp [z]] at h2
  omega
end PL

namespace K66
open PySem PySem.Spec PyProof.Rows L2 DL
def top (i : Nat) : Stmt := PySem.Challenge.pw_rankwright_k66_whole_good_splits.main.body.getD i (.Pass ⟨0, 0, 0, 0⟩)
section
variable {P : Program} {w : World} {K : PySem.W.Frag} {mg : Str → Option Value} {base : Heap} {f : Addr} {fd : FuncData}
/-! ### is_whole_in -/
abbrev s_is_whole_in : Stmt := top 12
abbrev N_is_whole_in : List Str := ["value", "least", "most"]
theorem sc_is_whole_in : FnScope N_is_whole_in ["value", "least", "most"] (defScope s_is_whole_in) := ⟨rfl, rfl, rfl, by decide +kernel, rfl, by decide +kernel, by decide +kernel⟩
def m_is_whole_in (value_ : Nat) (least_ : Nat) (most_ : Nat) : Bool := (true && ((!false) && (decide (least_ ≤ value_) && decide (value_ ≤ most_))))
def ok_is_whole_in (_value_ : Nat) (_least_ : Nat) (_most_ : Nat) : Prop := True
def R_is_whole_in (ds : List D) (r : Var) : Prop := ∃ (value_ : Nat) (least_ : Nat) (most_ : Nat), ok_is_whole_in value_ least_ most_ ∧ ds = [eN value_, eN least_, eN most_] ∧ r = (fun v => Var.fz (D.bl v)) (m_is_whole_in value_ least_ most_)
theorem c_is_whole_in {k : Nat} (F : FunD K "is_whole_in" "is_whole_in" (defArgs s_is_whole_in) (defBody s_is_whole_in) (defScope s_is_whole_in) [] [] f fd) (hm : mg "is_whole_in" = some (.ref f)) (m_bool : mg "bool" = none) (m_int : mg "int" = none) (m_isinstance : mg "isinstance" = none) :
    Fc P w K mg base "is_whole_in" ["value", "least", "most"] (k + 1) (FP (R_is_whole_in)) := by
  have Sc := sc_is_whole_in
  refine fc_of F hm Sc (by decide) (fun _ _ _ _ _ _ us hl => match us, hl with | [_, _, _], _ => rfl) (FP.par (n := 3) fun ds r h => by obtain ⟨_, _, _, _, rfl, _⟩ := h; rfl) fun cdv A outer s H E hr as r as' hS => ?_
  obtain ⟨ds, e1, e2, h⟩ := hS
  have pk : ∀ ρ, ParOk as as' ρ := fun ρ => FP.ok e1 e2
  subst e1
  have hu := hr.units
  show XS _ _ _ (kF r (ParOk _ as'))
  generalize ParOk _ as' = PK at pk ⊢
  obtain ⟨value_, least_, most_, ho, e3, e4⟩ := h
  subst e3 e4
  show XS _ _ [.fz (eN value_), .fz (eN least_), .fz (eN most_)] (kF ((fun v => Var.fz (D.bl v)) (m_is_whole_in value_ least_ most_)) PK)
  exact (xs_one (x1_ret (ev_andV (ev_isiB (t := "int") (n := "int") (by rfl) m_isinstance (by rfl) m_int (by decide +kernel) (ev_var (i := 0) rfl rfl) rfl (by decide +kernel)) (fun hc0 => (ev_andV (ev_not (ev_isiB (t := "int") (n := "bool") (by rfl) m_isinstance (by rfl) m_bool (by decide +kernel) (ev_var (i := 0) rfl rfl) rfl (by decide +kernel))) (fun hc1 => (ev_one (ev_chn op_le op_le (ev_var (i := 1) rfl rfl) (ev_var (i := 0) rfl rfl) (fun hc => (ev_var (i := 2) rfl rfl)) odLeN (fun _ => odLeN))))))) ⟨rfl, pk _⟩))
/-! ### is_set_of_elements -/
abbrev s_is_set_of_elements : Stmt := top 13
abbrev N_is_set_of_elements : List Str := ["value", "part", "k"]
theorem sc_is_set_of_elements : FnScope N_is_set_of_elements ["value"] (defScope s_is_set_of_elements) := ⟨rfl, rfl, rfl, by decide +kernel, rfl, by decide +kernel, by decide +kernel⟩
def m_is_set_of_elements (value_ : (List Nat)) : Bool := (if (false || (!(((value_).map (fun x1 => (m_is_whole_in x1 0 199))).all id))) = true then false else (((List.range ((value_.length : Int) - (1 : Int)).toNat).map (fun x3 => (decide ((nth value_ x3) < (nth value_ (x3 + 1)))))).all id))
def ok_is_set_of_elements (value_ : (List Nat)) : Prop := (false = false → ((value_).length ≤ 1000000) ∧ (∀ x1 ∈ value_, (ok_is_whole_in x1 0 199))) ∧ ((false || (!(((value_).map (fun x1 => (m_is_whole_in x1 0 199))).all id))) = false → (-(2 ^ 62) ≤ ((value_.length : Int) - (1 : Int)) ∧ ((value_.length : Int) - (1 : Int)) < 2 ^ 62) ∧ ((List.range ((value_.length : Int) - (1 : Int)).toNat).length ≤ 1000000) ∧ (∀ x3 ∈ List.range ((value_.length : Int) - (1 : Int)).toNat, (x3 < value_.length) ∧ ((x3 + 1) < value_.length)))
def R_is_set_of_elements (ds : List D) (r : Var) : Prop := ∃ (value_ : (List Nat)), ok_is_set_of_elements value_ ∧ ds = [(eTup eN) value_] ∧ r = (fun v => Var.fz (D.bl v)) (m_is_set_of_elements value_)
theorem c_is_set_of_elements {k : Nat} (F : FunD K "is_set_of_elements" "is_set_of_elements" (defArgs s_is_set_of_elements) (defBody s_is_set_of_elements) (defScope s_is_set_of_elements) [] [] f fd) (hm : mg "is_set_of_elements" = some (.ref f)) (m_all : mg "all" = none) (m_isinstance : mg "isinstance" = none) (m_len : mg "len" = none) (m_range : mg "range" = none) (m_tuple : mg "tuple" = none) (g_MAX_ELEMENT : ∃ t, mg "MAX_ELEMENT" = some (.int 199 t)) (F_is_whole_in : Fc P w K mg base "is_whole_in" ["value", "least", "most"] k (FP (R_is_whole_in))) :
    Fc P w K mg base "is_set_of_elements" ["value"] (k + 1) (FP (R_is_set_of_elements)) := by
  have Sc := sc_is_set_of_elements
  refine fc_of F hm Sc (by decide) (fun _ _ _ _ _ _ us hl => match us, hl with | [_], _ => rfl) (FP.par (n := 1) fun ds r h => by obtain ⟨_, _, rfl, _⟩ := h; rfl) fun cdv A outer s H E hr as r as' hS => ?_
  obtain ⟨ds, e1, e2, h⟩ := hS
  have pk : ∀ ρ, ParOk as as' ρ := fun ρ => FP.ok e1 e2
  subst e1
  have hu := hr.units
  show XS _ _ _ (kF r (ParOk _ as'))
  generalize ParOk _ as' = PK at pk ⊢
  obtain ⟨value_, ho, e3, e4⟩ := h
  subst e3 e4
  show XS _ _ [.fz ((eTup eN) value_), .un, .un] (kF ((fun v => Var.fz (D.bl v)) (m_is_set_of_elements value_)) PK)
  exact (xs_ifN ((ew_or (et_not (b := true) (et_val (ev_isiB (t := "tuple") (n := "tuple") (by rfl) m_isinstance (by rfl) m_tuple (by decide +kernel) (ev_var (i := 0) rfl rfl) rfl (by decide +kernel)))) (fun hc0 => (ew_or1 (et_not (et_val (ev_all (by rfl) m_all rfl (ea_1 (ev_fr (ev_lcM (own := [("part", 1)]) (js := [1]) (value_) eN D.bl (fun x1 => [.fz ((eTup eN) value_), .fz (eN x1), .un]) (fun x1 => (m_is_whole_in x1 0 199)) rfl Sc.nd (ei_tup (ev_var (i := 0) rfl rfl)) (blkOk_by (own := [("part", 1)]) (by kernel_rfl)) (by decide) (fun _ _ => rfl) (fun x1 _ _ _ _ _ _ => (xg_name 1 Sc.nd rfl (by first | exact .inl rfl | exact .inr rfl) rfl)) (fun x1 hx1 _ _ _ _ _ => (ev_call F_is_whole_in hr (by rfl) pass0 (ea_cons (ev_var (i := 1) rfl rfl) (ea_cons (ev_natC (n := 0)) (ea_cons (ev_c (d := eN 199) (pe_glob (v := .int 199) (by rfl) g_MAX_ELEMENT.choose_spec ⟨_, rfl⟩) fun _ => rfl) ea_nil))) (FP.mk ⟨x1, 0, 199, ((ho.1 hc0).2 x1 hx1), rfl, rfl⟩))) (Nat.lt_of_le_of_lt (ho.1 hc0).1 (by decide)))))))))))).t (fun hc2 => XS.ift (fun w => noNx (kF ((fun v => Var.fz (D.bl v)) w) PK)) hc2 (xs_one (x1_ret ev_bl ⟨rfl, pk _⟩))) (fun hc2 => XS.iff (fun w => kF ((fun v => Var.fz (D.bl v)) w) PK) hc2 (xs_one (x1_ret (ev_all (by rfl) m_all rfl (ea_1 (ev_fr (ev_lcM (own := [("k", 2)]) (js := [2]) (List.range ((value_.length : Int) - (1 : Int)).toNat) eN D.bl (fun x3 => [.fz ((eTup eN) value_), .un, .fz (eN x3)]) (fun x3 => (decide ((nth value_ x3) < (nth value_ (x3 + 1))))) rfl Sc.nd (ei_rangeI (by rfl) m_range (ea_1 (ev_sub (ev_as (ev_len (by rfl) m_len (ea_1 (ev_var (i := 0) rfl rfl)) rfl) (by rw [List.length_map])) (ev_natC (n := 1)))) (ho.2 hc2).1) (blkOk_by (own := [("k", 2)]) (by kernel_rfl)) (by decide) (fun _ _ => rfl) (fun x3 _ _ _ _ _ _ => (xg_name 2 Sc.nd rfl (by first | exact .inl rfl | exact .inr rfl) rfl)) (fun x3 hx3 _ _ _ _ _ => (ev_cp (cp_ltN (i := (nth value_ x3)) (j := (nth value_ (x3 + 1))) (ev_ixTN (enc := eN) (l := value_) (i := x3) (ev_var (i := 0) rfl rfl) (ev_var (i := 2) rfl rfl) ((ho.2 hc2).2.2 x3 hx3).1) (ev_ixTN (enc := eN) (l := value_) (i := (x3 + 1)) (ev_var (i := 0) rfl rfl) (ev_addN (i := x3) (j := 1) (ev_var (i := 2) rfl rfl) (ev_natC (n := 1))) ((ho.2 hc2).2.2 x3 hx3).2)))) (Nat.lt_of_le_of_lt (ho.2 hc2).2.1 (by decide)))))) ⟨rfl, pk _⟩))))
/-! ### is_ground -/
abbrev s_is_ground : Stmt := top 14
abbrev N_is_ground : List Str := ["value"]
theorem sc_is_ground : FnScope N_is_ground ["value"] (defScope s_is_ground) := ⟨rfl, rfl, rfl, by decide +kernel, rfl, by decide +kernel, by decide +kernel⟩
def m_is_ground (value_ : (List Nat)) : Bool := ((m_is_set_of_elements value_) && (decide (value_.length ≤ 10)))
def ok_is_ground (value_ : (List Nat)) : Prop := (ok_is_set_of_elements value_)
def R_is_ground (ds : List D) (r : Var) : Prop := ∃ (value_ : (List Nat)), ok_is_ground value_ ∧ ds = [(eTup eN) value_] ∧ r = (fun v => Var.fz (D.bl v)) (m_is_ground value_)
theorem c_is_ground {k : Nat} (F : FunD K "is_ground" "is_ground" (defArgs s_is_ground) (defBody s_is_ground) (defScope s_is_ground) [] [] f fd) (hm : mg "is_ground" = some (.ref f)) (m_len : mg "len" = none) (g_MAX_GROUND : ∃ t, mg "MAX_GROUND" = some (.int 10 t)) (F_is_set_of_elements : Fc P w K mg base "is_set_of_elements" ["value"] k (FP (R_is_set_of_elements))) :
    Fc P w K mg base "is_ground" ["value"] (k + 1) (FP (R_is_ground)) := by
  have Sc := sc_is_ground
  refine fc_of F hm Sc (by decide) (fun _ _ _ _ _ _ us hl => match us, hl with | [_], _ => rfl) (FP.par (n := 1) fun ds r h => by obtain ⟨_, _, rfl, _⟩ := h; rfl) fun cdv A outer s H E hr as r as' hS => ?_
  obtain ⟨ds, e1, e2, h⟩ := hS
  have pk : ∀ ρ, ParOk as as' ρ := fun ρ => FP.ok e1 e2
  subst e1
  have hu := hr.units
  show XS _ _ _ (kF r (ParOk _ as'))
  generalize ParOk _ as' = PK at pk ⊢
  obtain ⟨value_, ho, e3, e4⟩ := h
  subst e3 e4
  show XS _ _ [.fz ((eTup eN) value_)] (kF ((fun v => Var.fz (D.bl v)) (m_is_ground value_)) PK)
  exact (xs_one (x1_ret (ev_andV (ev_call F_is_set_of_elements hr (by rfl) pass0 (ea_cons (ev_var (i := 0) rfl rfl) ea_nil) (FP.mk ⟨value_, ho, rfl, rfl⟩)) (fun hc0 => (ev_one (ev_cp (cp_leN (i := value_.length) (j := 10) (ev_as (ev_len (by rfl) m_len (ea_1 (ev_var (i := 0) rfl rfl)) rfl) (by rw [List.length_map])) (ev_c (d := eN 10) (pe_glob (v := .int 10) (by rfl) g_MAX_GROUND.choose_spec ⟨_, rfl⟩) fun _ => rfl)))))) ⟨rfl, pk _⟩))
/-! ### is_set_within -/
abbrev s_is_set_within : Stmt := top 15
abbrev N_is_set_within : List Str := ["ground", "value", "part"]
theorem sc_is_set_within : FnScope N_is_set_within ["ground", "value"] (defScope s_is_set_within) := ⟨rfl, rfl, rfl, by decide +kernel, rfl, by decide +kernel, by decide +kernel⟩
def m_is_set_within (ground_ : (List Nat)) (value_ : (List Nat)) : Bool := ((m_is_set_of_elements value_) && (((value_).map (fun x1 => (decide (x1 ∈ ground_)))).all id))
def ok_is_set_within (_ground_ : (List Nat)) (value_ : (List Nat)) : Prop := (ok_is_set_of_elements value_) ∧ ((m_is_set_of_elements value_) = true → ((value_).length ≤ 1000000))
def R_is_set_within (ds : List D) (r : Var) : Prop := ∃ (ground_ : (List Nat)) (value_ : (List Nat)), ok_is_set_within ground_ value_ ∧ ds = [(eTup eN) ground_, (eTup eN) value_] ∧ r = (fun v => Var.fz (D.bl v)) (m_is_set_within ground_ value_)
theorem c_is_set_within {k : Nat} (F : FunD K "is_set_within" "is_set_within" (defArgs s_is_set_within) (defBody s_is_set_within) (defScope s_is_set_within) [] [] f fd) (hm : mg "is_set_within" = some (.ref f)) (m_all : mg "all" = none) (F_is_set_of_elements : Fc P w K mg base "is_set_of_elements" ["value"] k (FP (R_is_set_of_elements))) :
    Fc P w K mg base "is_set_within" ["ground", "value"] (k + 1) (FP (R_is_set_within)) := by
  have Sc := sc_is_set_within
  refine fc_of F hm Sc (by decide) (fun _ _ _ _ _ _ us hl => match us, hl with | [_, _], _ => rfl) (FP.par (n := 2) fun ds r h => by obtain ⟨_, _, _, rfl, _⟩ := h; rfl) fun cdv A outer s H E hr as r as' hS => ?_
  obtain ⟨ds, e1, e2, h⟩ := hS
  have pk : ∀ ρ, ParOk as as' ρ := fun ρ => FP.ok e1 e2
  subst e1
  have hu := hr.units
  show XS _ _ _ (kF r (ParOk _ as'))
  generalize ParOk _ as' = PK at pk ⊢
  obtain ⟨ground_, value_, ho, e3, e4⟩ := h
  subst e3 e4
  show XS _ _ [.fz ((eTup eN) ground_), .fz ((eTup eN) value_), .un] (kF ((fun v => Var.fz (D.bl v)) (m_is_set_within ground_ value_)) PK)
  exact (xs_one (x1_ret (ev_andV (ev_call F_is_set_of_elements hr (by rfl) pass0 (ea_cons (ev_var (i := 1) rfl rfl) ea_nil) (FP.mk ⟨value_, ho.1, rfl, rfl⟩)) (fun hc0 => (ev_one (ev_all (by rfl) m_all rfl (ea_1 (ev_fr (ev_lcM (own := [("part", 2)]) (js := [2]) (value_) eN D.bl (fun x1 => [.fz ((eTup eN) ground_), .fz ((eTup eN) value_), .fz (eN x1)]) (fun x1 => (decide (x1 ∈ ground_))) rfl Sc.nd (ei_tup (ev_var (i := 1) rfl rfl)) (blkOk_by (own := [("part", 2)]) (by kernel_rfl)) (by decide) (fun _ _ => rfl) (fun x1 _ _ _ _ _ _ => (xg_name 2 Sc.nd rfl (by first | exact .inl rfl | exact .inr rfl) rfl)) (fun x1 hx1 _ _ _ _ _ => (ev_cp (cp_inTN (ev_var (i := 2) rfl rfl) (ev_var (i := 0) rfl rfl)))) (Nat.lt_of_le_of_lt (ho.2 hc0) (by decide))))))))) ⟨rfl, pk _⟩))
/-! ### are_sets_within -/
abbrev s_are_sets_within : Stmt := top 16
abbrev N_are_sets_within : List Str := ["ground", "value", "part", "k"]
theorem sc_are_sets_within : FnScope N_are_sets_within ["ground", "value"] (defScope s_are_sets_within) := ⟨rfl, rfl, rfl, by decide +kernel, rfl, by decide +kernel, by decide +kernel⟩
def m_are_sets_within (ground_ : (List Nat)) (value_ : (List (List Nat))) : Bool := (if (false || (!(((value_).map (fun x1 => (m_is_set_within ground_ x1))).all id))) = true then false else (((List.range ((value_.length : Int) - (1 : Int)).toNat).map (fun x3 => ((lexL ltN) (nth value_ x3) (nth value_ (x3 + 1))))).all id))
def ok_are_sets_within (ground_ : (List Nat)) (value_ : (List (List Nat))) : Prop := (false = false → ((value_).length ≤ 1000000) ∧ (∀ x1 ∈ value_, (ok_is_set_within ground_ x1))) ∧ ((false || (!(((value_).map (fun x1 => (m_is_set_within ground_ x1))).all id))) = false → (-(2 ^ 62) ≤ ((value_.length : Int) - (1 : Int)) ∧ ((value_.length : Int) - (1 : Int)) < 2 ^ 62) ∧ ((List.range ((value_.length : Int) - (1 : Int)).toNat).length ≤ 1000000) ∧ (∀ x3 ∈ List.range ((value_.length : Int) - (1 : Int)).toNat, (x3 < value_.length) ∧ ((x3 + 1) < value_.length)))
def R_are_sets_within (ds : List D) (r : Var) : Prop := ∃ (ground_ : (List Nat)) (value_ : (List (List Nat))), ok_are_sets_within ground_ value_ ∧ ds = [(eTup eN) ground_, (eTup (eTup eN)) value_] ∧ r = (fun v => Var.fz (D.bl v)) (m_are_sets_within ground_ value_)
theorem c_are_sets_within {k : Nat} (F : FunD K "are_sets_within" "are_sets_within" (defArgs s_are_sets_within) (defBody s_are_sets_within) (defScope s_are_sets_within) [] [] f fd) (hm : mg "are_sets_within" = some (.ref f)) (m_all : mg "all" = none) (m_isinstance : mg "isinstance" = none) (m_len : mg "len" = none) (m_range : mg "range" = none) (m_tuple : mg "tuple" = none) (F_is_set_within : Fc P w K mg base "is_set_within" ["ground", "value"] k (FP (R_is_set_within))) :
    Fc P w K mg base "are_sets_within" ["ground", "value"] (k + 1) (FP (R_are_sets_within)) := by
  have Sc := sc_are_sets_within
  refine fc_of F hm Sc (by decide) (fun _ _ _ _ _ _ us hl => match us, hl with | [_, _], _ => rfl) (FP.par (n := 2) fun ds r h => by obtain ⟨_, _, _, rfl, _⟩ := h; rfl) fun cdv A outer s H E hr as r as' hS => ?_
  obtain ⟨ds, e1, e2, h⟩ := hS
  have pk : ∀ ρ, ParOk as as' ρ := fun ρ => FP.ok e1 e2
  subst e1
  have hu := hr.units
  show XS _ _ _ (kF r (ParOk _ as'))
  generalize ParOk _ as' = PK at pk ⊢
  obtain ⟨ground_, value_, ho, e3, e4⟩ := h
  subst e3 e4
  show XS _ _ [.fz ((eTup eN) ground_), .fz ((eTup (eTup eN)) value_), .un, .un] (kF ((fun v => Var.fz (D.bl v)) (m_are_sets_within ground_ value_)) PK)
  exact (xs_ifN ((ew_or (et_not (b := true) (et_val (ev_isiB (t := "tuple") (n := "tuple") (by rfl) m_isinstance (by rfl) m_tuple (by decide +kernel) (ev_var (i := 1) rfl rfl) rfl (by decide +kernel)))) (fun hc0 => (ew_or1 (et_not (et_val (ev_all (by rfl) m_all rfl (ea_1 (ev_fr (ev_lcM (own := [("part", 2)]) (js := [2]) (value_) (eTup eN) D.bl (fun x1 => [.fz ((eTup eN) ground_), .fz ((eTup (eTup eN)) value_), .fz ((eTup eN) x1), .un]) (fun x1 => (m_is_set_within ground_ x1)) rfl Sc.nd (ei_tup (ev_var (i := 1) rfl rfl)) (blkOk_by (own := [("part", 2)]) (by kernel_rfl)) (by decide) (fun _ _ => rfl) (fun x1 _ _ _ _ _ _ => (xg_name 2 Sc.nd rfl (by first | exact .inl rfl | exact .inr rfl) rfl)) (fun x1 hx1 _ _ _ _ _ => (ev_call F_is_set_within hr (by rfl) pass0 (ea_cons (ev_var (i := 0) rfl rfl) (ea_cons (ev_var (i := 2) rfl rfl) ea_nil)) (FP.mk ⟨ground_, x1, ((ho.1 hc0).2 x1 hx1), rfl, rfl⟩))) (Nat.lt_of_le_of_lt (ho.1 hc0).1 (by decide)))))))))))).t (fun hc2 => XS.ift (fun w => noNx (kF ((fun v => Var.fz (D.bl v)) w) PK)) hc2 (xs_one (x1_ret ev_bl ⟨rfl, pk _⟩))) (fun hc2 => XS.iff (fun w => kF ((fun v => Var.fz (D.bl v)) w) PK) hc2 (xs_one (x1_ret (ev_all (by rfl) m_all rfl (ea_1 (ev_fr (ev_lcM (own := [("k", 3)]) (js := [3]) (List.range ((value_.length : Int) - (1 : Int)).toNat) eN D.bl (fun x3 => [.fz ((eTup eN) ground_), .fz ((eTup (eTup eN)) value_), .un, .fz (eN x3)]) (fun x3 => ((lexL ltN) (nth value_ x3) (nth value_ (x3 + 1)))) rfl Sc.nd (ei_rangeI (by rfl) m_range (ea_1 (ev_sub (ev_as (ev_len (by rfl) m_len (ea_1 (ev_var (i := 1) rfl rfl)) rfl) (by rw [List.length_map])) (ev_natC (n := 1)))) (ho.2 hc2).1) (blkOk_by (own := [("k", 3)]) (by kernel_rfl)) (by decide) (fun _ _ => rfl) (fun x3 _ _ _ _ _ _ => (xg_name 3 Sc.nd rfl (by first | exact .inl rfl | exact .inr rfl) rfl)) (fun x3 hx3 _ _ _ _ _ => (ev_cp (cp_ltT (Dat.tup Dat.nat) (by decide) hu (ev_ixTN (enc := (eTup eN)) (l := value_) (i := x3) (ev_var (i := 1) rfl rfl) (ev_var (i := 3) rfl rfl) ((ho.2 hc2).2.2 x3 hx3).1) (ev_ixTN (enc := (eTup eN)) (l := value_) (i := (x3 + 1)) (ev_var (i := 1) rfl rfl) (ev_addN (i := x3) (j := 1) (ev_var (i := 3) rfl rfl) (ev_natC (n := 1))) ((ho.2 hc2).2.2 x3 hx3).2)))) (Nat.lt_of_le_of_lt (ho.2 hc2).2.1 (by decide)))))) ⟨rfl, pk _⟩))))
/-! ### ones_of -/
abbrev s_ones_of : Stmt := top 17
abbrev N_ones_of : List Str := ["mask"]
theorem sc_ones_of : FnScope N_ones_of ["mask"] (defScope s_ones_of) := ⟨rfl, rfl, rfl, by decide +kernel, rfl, by decide +kernel, by decide +kernel⟩
def m_ones_of (mask_ : Nat) : Nat := (pop mask_)
def ok_ones_of (mask_ : Nat) : Prop := (mask_ < 16777216)
def R_ones_of (ds : List D) (r : Var) : Prop := ∃ (mask_ : Nat), ok_ones_of mask_ ∧ ds = [eN mask_] ∧ r = (fun v => Var.fz (eN v)) (m_ones_of mask_)
theorem c_ones_of {k : Nat} (F : FunD K "ones_of" "ones_of" (defArgs s_ones_of) (defBody s_ones_of) (defScope s_ones_of) [] [] f fd) (hm : mg "ones_of" = some (.ref f))  :
    Fc P w K mg base "ones_of" ["mask"] (k + 1) (FP (R_ones_of)) := by
  have Sc := sc_ones_of
  refine fc_of F hm Sc (by decide) (fun _ _ _ _ _ _ us hl => match us, hl with | [_], _ => rfl) (FP.par (n := 1) fun ds r h => by obtain ⟨_, _, rfl, _⟩ := h; rfl) fun cdv A outer s H E hr as r as' hS => ?_
  obtain ⟨ds, e1, e2, h⟩ := hS
  have pk : ∀ ρ, ParOk as as' ρ := fun ρ => FP.ok e1 e2
  subst e1
  have hu := hr.units
  show XS _ _ _ (kF r (ParOk _ as'))
  generalize ParOk _ as' = PK at pk ⊢
  obtain ⟨mask_, ho, e3, e4⟩ := h
  subst e3 e4
  show XS _ _ [.fz (eN mask_)] (kF ((fun v => Var.fz (eN v)) (m_ones_of mask_)) PK)
  exact (xs_one (x1_ret (ev_ones (ev_var (i := 0) rfl rfl) ho) ⟨rfl, pk _⟩))
/-! ### mask_from -/
abbrev s_mask_from : Stmt := top 18
abbrev N_mask_from : List Str := ["ground", "members", "place", "element"]
theorem sc_mask_from : FnScope N_mask_from ["ground", "members"] (defScope s_mask_from) := ⟨rfl, rfl, rfl, by decide +kernel, rfl, by decide +kernel, by decide +kernel⟩
def m_mask_from (ground_ : (List Nat)) (members_ : (List Nat)) : Nat := (((enm ground_).filter (fun x1 => (decide (x1.2 ∈ members_)))).map (fun x1 => (1 <<< x1.1))).sum
def ok_mask_from (ground_ : (List Nat)) (members_ : (List Nat)) : Prop := ((enm ground_).length ≤ 1000000) ∧ (∀ x1 ∈ enm ground_, ((decide (x1.2 ∈ members_)) = true → (x1.1 ≤ 1000000)))
def R_mask_from (ds : List D) (r : Var) : Prop := ∃ (ground_ : (List Nat)) (members_ : (List Nat)), ok_mask_from ground_ members_ ∧ ds = [(eTup eN) ground_, (eTup eN) members_] ∧ r = (fun v => Var.fz (eN v)) (m_mask_from ground_ members_)
theorem c_mask_from {k : Nat} (F : FunD K "mask_from" "mask_from" (defArgs s_mask_from) (defBody s_mask_from) (defScope s_mask_from) [] [] f fd) (hm : mg "mask_from" = some (.ref f)) (m_enumerate : mg "enumerate" = none) (m_sum : mg "sum" = none) :
    Fc P w K mg base "mask_from" ["ground", "members"] (k + 1) (FP (R_mask_from)) := by
  have Sc := sc_mask_from
  refine fc_of F hm Sc (by decide) (fun _ _ _ _ _ _ us hl => match us, hl with | [_, _], _ => rfl) (FP.par (n := 2) fun ds r h => by obtain ⟨_, _, _, rfl, _⟩ := h; rfl) fun cdv A outer s H E hr as r as' hS => ?_
  obtain ⟨ds, e1, e2, h⟩ := hS
  have pk : ∀ ρ, ParOk as as' ρ := fun ρ => FP.ok e1 e2
  subst e1
  have hu := hr.units
  show XS _ _ _ (kF r (ParOk _ as'))
  generalize ParOk _ as' = PK at pk ⊢
  obtain ⟨ground_, members_, ho, e3, e4⟩ := h
  subst e3 e4
  show XS _ _ [.fz ((eTup eN) ground_), .fz ((eTup eN) members_), .un, .un] (kF ((fun v => Var.fz (eN v)) (m_mask_from ground_ members_)) PK)
  exact (xs_one (x1_ret (ev_sumN (by rfl) m_sum rfl (ea_1 (ev_fr (ev_lcF (own := [("place", 2), ("element", 3)]) (js := [2, 3]) (enm ground_) (eP eN eN) eN (fun x1 => [.fz ((eTup eN) ground_), .fz ((eTup eN) members_), .fz (eN x1.1), .fz (eN x1.2)]) (fun x1 => (decide (x1.2 ∈ members_))) (fun x1 => (1 <<< x1.1)) rfl Sc.nd (ei_enumT (by rfl) m_enumerate (ea_1 (ev_var (i := 0) rfl rfl))) (blkOk_by (own := [("place", 2), ("element", 3)]) (by kernel_rfl)) (by decide) (fun _ _ => rfl) (fun x1 _ _ _ _ _ _ => (xg_tup (js := [2, 3]) rfl (xgs_cons (js := [2]) (ks := [3]) (xg_name 2 Sc.nd rfl (by first | exact .inl rfl | exact .inr rfl) (xgs_cons (js := [3]) (ks := []) (xg_name 3 Sc.nd rfl (by first | exact .inl rfl | exact .inr rfl) (xgs_nil rfl))))))) (fun x1 hx1 _ _ _ _ _ => ets_one (et_cp (cp_inTN (ev_var (i := 3) rfl rfl) (ev_var (i := 1) rfl rfl)))) (fun x1 hx1 hqx1 _ _ _ _ _ => (ev_shlN (i := 1) (j := x1.1) (ev_natC (n := 1)) (ev_var (i := 2) rfl rfl) ((ho.2 x1 hx1) hqx1) (by decide))) (Nat.lt_of_le_of_lt ho.1 (by decide)))))) ⟨rfl, pk _⟩))
/-! ### set_from -/
abbrev s_set_from : Stmt := top 19
abbrev N_set_from : List Str := ["ground", "mask", "place", "element"]
theorem sc_set_from : FnScope N_set_from ["ground", "mask"] (defScope s_set_from) := ⟨rfl, rfl, rfl, by decide +kernel, rfl, by decide +kernel, by decide +kernel⟩
def m_set_from (ground_ : (List Nat)) (mask_ : Nat) : (List Nat) := ((enm ground_).filter (fun x1 => (decide (((mask_ >>> x1.1) &&& 1) = 1)))).map (fun x1 => x1.2)
def ok_set_from (ground_ : (List Nat)) (_mask_ : Nat) : Prop := ((enm ground_).length ≤ 1000000)
def R_set_from (ds : List D) (r : Var) : Prop := ∃ (ground_ : (List Nat)) (mask_ : Nat), ok_set_from ground_ mask_ ∧ ds = [(eTup eN) ground_, eN mask_] ∧ r = (fun v => Var.fz ((eTup eN) v)) (m_set_from ground_ mask_)
theorem c_set_from {k : Nat} (F : FunD K "set_from" "set_from" (defArgs s_set_from) (defBody s_set_from) (defScope s_set_from) [] [] f fd) (hm : mg "set_from" = some (.ref f)) (m_enumerate : mg "enumerate" = none) (m_tuple : mg "tuple" = none) :
    Fc P w K mg base "set_from" ["ground", "mask"] (k + 1) (FP (R_set_from)) := by
  have Sc := sc_set_from
  refine fc_of F hm Sc (by decide) (fun _ _ _ _ _ _ us hl => match us, hl with | [_, _], _ => rfl) (FP.par (n := 2) fun ds r h => by obtain ⟨_, _, _, rfl, _⟩ := h; rfl) fun cdv A outer s H E hr as r as' hS => ?_
  obtain ⟨ds, e1, e2, h⟩ := hS
  have pk : ∀ ρ, ParOk as as' ρ := fun ρ => FP.ok e1 e2
  subst e1
  have hu := hr.units
  show XS _ _ _ (kF r (ParOk _ as'))
  generalize ParOk _ as' = PK at pk ⊢
  obtain ⟨ground_, mask_, ho, e3, e4⟩ := h
  subst e3 e4
  show XS _ _ [.fz ((eTup eN) ground_), .fz (eN mask_), .un, .un] (kF ((fun v => Var.fz ((eTup eN) v)) (m_set_from ground_ mask_)) PK)
  exact (xs_one (x1_ret (ev_tuple (by rfl) m_tuple (ea_1 (ev_fr (ev_lcF (own := [("place", 2), ("element", 3)]) (js := [2, 3]) (enm ground_) (eP eN eN) eN (fun x1 => [.fz ((eTup eN) ground_), .fz (eN mask_), .fz (eN x1.1), .fz (eN x1.2)]) (fun x1 => (decide (((mask_ >>> x1.1) &&& 1) = 1))) (fun x1 => x1.2) rfl Sc.nd (ei_enumT (by rfl) m_enumerate (ea_1 (ev_var (i := 0) rfl rfl))) (blkOk_by (own := [("place", 2), ("element", 3)]) (by kernel_rfl)) (by decide) (fun _ _ => rfl) (fun x1 _ _ _ _ _ _ => (xg_tup (js := [2, 3]) rfl (xgs_cons (js := [2]) (ks := [3]) (xg_name 2 Sc.nd rfl (by first | exact .inl rfl | exact .inr rfl) (xgs_cons (js := [3]) (ks := []) (xg_name 3 Sc.nd rfl (by first | exact .inl rfl | exact .inr rfl) (xgs_nil rfl))))))) (fun x1 hx1 _ _ _ _ _ => ets_one (et_cp (cp_eqN (i := ((mask_ >>> x1.1) &&& 1)) (j := 1) (ev_andN (i := (mask_ >>> x1.1)) (j := 1) (ev_shrN (i := mask_) (j := x1.1) (ev_var (i := 1) rfl rfl) (ev_var (i := 2) rfl rfl)) (ev_natC (n := 1))) (ev_natC (n := 1))))) (fun x1 hx1 hqx1 _ _ _ _ _ => (ev_var (i := 3) rfl rfl)) (Nat.lt_of_le_of_lt ho (by decide)))))) ⟨rfl, pk _⟩))
/-! ### sets_from -/
abbrev s_sets_from : Stmt := top 20
abbrev N_sets_from : List Str := ["ground", "masks", "mask"]
theorem sc_sets_from : FnScope N_sets_from ["ground", "masks"] (defScope s_sets_from) := ⟨rfl, rfl, rfl, by decide +kernel, rfl, by decide +kernel, by decide +kernel⟩
def m_sets_from (ground_ : (List Nat)) (masks_ : (List Nat)) : (List (List Nat)) := (srtL (lexL ltN) ((masks_).map (fun x1 => (m_set_from ground_ x1))))
def ok_sets_from (ground_ : (List Nat)) (masks_ : (List Nat)) : Prop := ((masks_).length ≤ 1000000) ∧ (∀ x1 ∈ masks_, (ok_set_from ground_ x1)) ∧ (((masks_).map (fun x1 => (m_set_from ground_ x1))).length ≤ 1000000)
def R_sets_from (ds : List D) (r : Var) : Prop := ∃ (ground_ : (List Nat)) (masks_ : (List Nat)), ok_sets_from ground_ masks_ ∧ ds = [(eTup eN) ground_, (eLst eN) masks_] ∧ r = (fun v => Var.fz ((eTup (eTup eN)) v)) (m_sets_from ground_ masks_)
theorem c_sets_from {k : Nat} (F : FunD K "sets_from" "sets_from" (defArgs s_sets_from) (defBody s_sets_from) (defScope s_sets_from) [] [] f fd) (hm : mg "sets_from" = some (.ref f)) (m_sorted : mg "sorted" = none) (m_tuple : mg "tuple" = none) (F_set_from : Fc P w K mg base "set_from" ["ground", "mask"] k (FP (R_set_from))) :
    Fc P w K mg base "sets_from" ["ground", "masks"] (k + 1) (FP (R_sets_from)) := by
  have Sc := sc_sets_from
  refine fc_of F hm Sc (by decide) (fun _ _ _ _ _ _ us hl => match us, hl with | [_, _], _ => rfl) (FP.par (n := 2) fun ds r h => by obtain ⟨_, _, _, rfl, _⟩ := h; rfl) fun cdv A outer s H E hr as r as' hS => ?_
  obtain ⟨ds, e1, e2, h⟩ := hS
  have pk : ∀ ρ, ParOk as as' ρ := fun ρ => FP.ok e1 e2
  subst e1
  have hu := hr.units
  show XS _ _ _ (kF r (ParOk _ as'))
  generalize ParOk _ as' = PK at pk ⊢
  obtain ⟨ground_, masks_, ho, e3, e4⟩ := h
  subst e3 e4
  show XS _ _ [.fz ((eTup eN) ground_), .fz ((eLst eN) masks_), .un] (kF ((fun v => Var.fz ((eTup (eTup eN)) v)) (m_sets_from ground_ masks_)) PK)
  exact (xs_one (x1_ret (ev_tuple (by rfl) m_tuple (ea_1 (ev_fr (ev_sorted (Dat.tup Dat.nat) (by decide) hu (by rfl) m_sorted (ea_1 (ev_fr (ev_lcM (own := [("mask", 2)]) (js := [2]) (masks_) eN (eTup eN) (fun x1 => [.fz ((eTup eN) ground_), .fz ((eLst eN) masks_), .fz (eN x1)]) (fun x1 => (m_set_from ground_ x1)) rfl Sc.nd (ei_list (ev_var (i := 1) rfl rfl)) (blkOk_by (own := [("mask", 2)]) (by kernel_rfl)) (by decide) (fun _ _ => rfl) (fun x1 _ _ _ _ _ _ => (xg_name 2 Sc.nd rfl (by first | exact .inl rfl | exact .inr rfl) rfl)) (fun x1 hx1 _ _ _ _ _ => (ev_call F_set_from hr (by rfl) pass0 (ea_cons (ev_var (i := 0) rfl rfl) (ea_cons (ev_var (i := 2) rfl rfl) ea_nil)) (FP.mk ⟨ground_, x1, (ho.2.1 x1 hx1), rfl, rfl⟩))) (Nat.lt_of_le_of_lt ho.1 (by decide))))) (Nat.le_trans ho.2.2 (by decide)))))) ⟨rfl, pk _⟩))
/-! ### digits_in -/
abbrev s_digits_in : Stmt := top 21
abbrev N_digits_in : List Str := ["mask", "many", "place"]
theorem sc_digits_in : FnScope N_digits_in ["mask", "many"] (defScope s_digits_in) := ⟨rfl, rfl, rfl, by decide +kernel, rfl, by decide +kernel, by decide +kernel⟩
def m_digits_in (mask_ : Nat) (many_ : Nat) : (List Nat) := ((List.range many_).filter (fun x1 => (decide (((mask_ >>> x1) &&& 1) = 1)))).map (fun x1 => (1 <<< x1))
def ok_digits_in (mask_ : Nat) (many_ : Nat) : Prop := (many_ < 2 ^ 62) ∧ ((List.range many_).length ≤ 1000000) ∧ (∀ x1 ∈ List.range many_, ((decide (((mask_ >>> x1) &&& 1) = 1)) = true → (x1 ≤ 1000000)))
def R_digits_in (ds : List D) (r : Var) : Prop := ∃ (mask_ : Nat) (many_ : Nat), ok_digits_in mask_ many_ ∧ ds = [eN mask_, eN many_] ∧ r = (fun v => Var.ow ((eLst eN) v)) (m_digits_in mask_ many_)
theorem c_digits_in {k : Nat} (F : FunD K "digits_in" "digits_in" (defArgs s_digits_in) (defBody s_digits_in) (defScope s_digits_in) [] [] f fd) (hm : mg "digits_in" = some (.ref f)) (m_range : mg "range" = none) :
    Fc P w K mg base "digits_in" ["mask", "many"] (k + 1) (FP (R_digits_in)) := by
  have Sc := sc_digits_in
  refine fc_of F hm Sc (by decide) (fun _ _ _ _ _ _ us hl => match us, hl with | [_, _], _ => rfl) (FP.par (n := 2) fun ds r h => by obtain ⟨_, _, _, rfl, _⟩ := h; rfl) fun cdv A outer s H E hr as r as' hS => ?_
  obtain ⟨ds, e1, e2, h⟩ := hS
  have pk : ∀ ρ, ParOk as as' ρ := fun ρ => FP.ok e1 e2
  subst e1
  have hu := hr.units
  show XS _ _ _ (kF r (ParOk _ as'))
  generalize ParOk _ as' = PK at pk ⊢
  obtain ⟨mask_, many_, ho, e3, e4⟩ := h
  subst e3 e4
  show XS _ _ [.fz (eN mask_), .fz (eN many_), .un] (kF ((fun v => Var.ow ((eLst eN) v)) (m_digits_in mask_ many_)) PK)
  exact (xs_one (x1_ret (ev_lcF (own := [("place", 2)]) (js := [2]) (List.range many_) eN eN (fun x1 => [.fz (eN mask_), .fz (eN many_), .fz (eN x1)]) (fun x1 => (decide (((mask_ >>> x1) &&& 1) = 1))) (fun x1 => (1 <<< x1)) rfl Sc.nd (ei_rangeN (by rfl) m_range (ea_1 (ev_var (i := 1) rfl rfl)) ho.1) (blkOk_by (own := [("place", 2)]) (by kernel_rfl)) (by decide) (fun _ _ => rfl) (fun x1 _ _ _ _ _ _ => (xg_name 2 Sc.nd rfl (by first | exact .inl rfl | exact .inr rfl) rfl)) (fun x1 hx1 _ _ _ _ _ => ets_one (et_cp (cp_eqN (i := ((mask_ >>> x1) &&& 1)) (j := 1) (ev_andN (i := (mask_ >>> x1)) (j := 1) (ev_shrN (i := mask_) (j := x1) (ev_var (i := 0) rfl rfl) (ev_var (i := 2) rfl rfl)) (ev_natC (n := 1))) (ev_natC (n := 1))))) (fun x1 hx1 hqx1 _ _ _ _ _ => (ev_shlN (i := 1) (j := x1) (ev_natC (n := 1)) (ev_var (i := 2) rfl rfl) ((ho.2.2 x1 hx1) hqx1) (by decide))) (Nat.lt_of_le_of_lt ho.2.1 (by decide))) ⟨rfl, pk _⟩))
/-! ### ranks_by_masks -/
abbrev s_ranks_by_masks : Stmt := top 22
abbrev N_ranks_by_masks : List Str := ["many", "masks", "is_free", "mask", "digit", "ranks"]
theorem sc_ranks_by_masks : FnScope N_ranks_by_masks ["many", "masks"] (defScope s_ranks_by_masks) := ⟨rfl, rfl, rfl, by decide +kernel, rfl, by decide +kernel, by decide +kernel⟩
def st_ranks_by_masks_1 (s2 : ((List Bool))) (x3 : Nat) : ((List Bool)) := (s2.set x3 true)
def sk_ranks_by_masks_2 (s2 : ((List Bool))) (x3 : Nat) : Prop := (x3 < s2.length)
def st_ranks_by_masks_3 (x6 : Nat) (s9 : ((List Bool))) (x10 : Nat) : ((List Bool)) := (s9.set (x6 ^^^ x10) true)
def sk_ranks_by_masks_4 (x6 : Nat) (s9 : ((List Bool))) (x10 : Nat) : Prop := ((x6 ^^^ x10) < s9.length)
def m_ranks_by_masks_5 (s11 : ((List Bool))) : ((List Bool)) := s11
def st_ranks_by_masks_6 (many_ : Nat) (s5 : ((List Bool))) (x6 : Nat) : ((List Bool)) := (if (nth s5 x6) = true then (m_ranks_by_masks_5 (List.foldl (fun s9 x10 => st_ranks_by_masks_3 x6 s9 x10) s5 ((m_digits_in x6 many_)))) else s5)
def sk_ranks_by_masks_7 (many_ : Nat) (s5 : ((List Bool))) (x6 : Nat) : Prop := (x6 < s5.length) ∧ ((nth s5 x6) = true → (ok_digits_in x6 many_) ∧ (okF (fun s9 x10 => sk_ranks_by_masks_4 x6 s9 x10) (fun s9 x10 => st_ranks_by_masks_3 x6 s9 x10) ((m_digits_in x6 many_)) s5))
def st_ranks_by_masks_8 (many_ : Nat) (s7 : ((List Bool))) (s13 : ((List Nat))) (x14 : Nat) : ((List Nat)) := (if (nth s7 x14) = true then (s13 ++ [(m_ones_of x14)]) else (s13 ++ [(maxL ltN (((m_digits_in x14 many_)).map (fun x17 => (nth s13 (x14 ^^^ x17)))))]))
def sk_ranks_by_masks_9 (many_ : Nat) (s7 : ((List Bool))) (s13 : ((List Nat))) (x14 : Nat) : Prop := (x14 < s7.length) ∧ ((nth s7 x14) = true → (ok_ones_of x14) ∧ (s13.length ≤ 1000000)) ∧ ((nth s7 x14) = false → (ok_digits_in x14 many_) ∧ (((m_digits_in x14 many_)).length ≤ 1000000) ∧ (∀ x17 ∈ (m_digits_in x14 many_), ((x14 ^^^ x17) < s13.length)) ∧ (((m_digits_in x14 many_)).map (fun x17 => (nth s13 (x14 ^^^ x17))) ≠ []) ∧ (s13.length ≤ 1000000))
def m_ranks_by_masks_10 (s15 : ((List Nat))) : (List Nat) := s15
def m_ranks_by_masks_11 (many_ : Nat) (s7 : ((List Bool))) (ranks_12 : (List Nat)) : (List Nat) := (m_ranks_by_masks_10 (List.foldl (fun s13 x14 => st_ranks_by_masks_8 many_ s7 s13 x14) ranks_12 (List.range (1 <<< many_))))
def ok_ranks_by_masks_12 (many_ : Nat) (s7 : ((List Bool))) (ranks_12 : (List Nat)) : Prop := (many_ ≤ 1000000) ∧ ((1 <<< many_) < 2 ^ 62) ∧ (okF (fun s13 x14 => sk_ranks_by_masks_9 many_ s7 s13 x14) (fun s13 x14 => st_ranks_by_masks_8 many_ s7 s13 x14) (List.range (1 <<< many_)) ranks_12)
def m_ranks_by_masks_13 (many_ : Nat) (s7 : ((List Bool))) : (List Nat) := (m_ranks_by_masks_11 many_ s7 ([] : List Nat))
def ok_ranks_by_masks_14 (many_ : Nat) (s7 : ((List Bool))) : Prop := (ok_ranks_by_masks_12 many_ s7 ([] : List Nat))
def m_ranks_by_masks_15 (many_ : Nat) (s4 : ((List Bool))) : (List Nat) := (m_ranks_by_masks_13 many_ (List.foldl (fun s5 x6 => st_ranks_by_masks_6 many_ s5 x6) s4 (dnN (1 <<< many_))))
def ok_ranks_by_masks_16 (many_ : Nat) (s4 : ((List Bool))) : Prop := (many_ ≤ 1000000) ∧ ((1 <<< many_) < 2 ^ 61) ∧ (okF (fun s5 x6 => sk_ranks_by_masks_7 many_ s5 x6) (fun s5 x6 => st_ranks_by_masks_6 many_ s5 x6) (dnN (1 <<< many_)) s4) ∧ (ok_ranks_by_masks_14 many_ (List.foldl (fun s5 x6 => st_ranks_by_masks_6 many_ s5 x6) s4 (dnN (1 <<< many_))))
def m_ranks_by_masks_17 (many_ : Nat) (masks_ : (List Nat)) (is_fre_1 : (List Bool)) : (List Nat) := (m_ranks_by_masks_15 many_ (List.foldl (fun s2 x3 => st_ranks_by_masks_1 s2 x3) is_fre_1 (masks_)))
def ok_ranks_by_masks_18 (many_ : Nat) (masks_ : (List Nat)) (is_fre_1 : (List Bool)) : Prop := (okF (fun s2 x3 => sk_ranks_by_masks_2 s2 x3) (fun s2 x3 => st_ranks_by_masks_1 s2 x3) (masks_) is_fre_1) ∧ (ok_ranks_by_masks_16 many_ (List.foldl (fun s2 x3 => st_ranks_by_masks_1 s2 x3) is_fre_1 (masks_)))
def m_ranks_by_masks (many_ : Nat) (masks_ : (List Nat)) : (List Nat) := (m_ranks_by_masks_17 many_ masks_ (List.replicate (1 <<< many_) false))
def ok_ranks_by_masks (many_ : Nat) (masks_ : (List Nat)) : Prop := (many_ ≤ 1000000) ∧ ((1 <<< many_) ≤ 1000000) ∧ (ok_ranks_by_masks_18 many_ masks_ (List.replicate (1 <<< many_) false))
def R_ranks_by_masks (ds : List D) (r : Var) : Prop := ∃ (many_ : Nat) (masks_ : (List Nat)), ok_ranks_by_masks many_ masks_ ∧ ds = [eN many_, (eLst eN) masks_] ∧ r = (fun v => Var.ow ((eLst eN) v)) (m_ranks_by_masks many_ masks_)
theorem c_ranks_by_masks {k : Nat} (F : FunD K "ranks_by_masks" "ranks_by_masks" (defArgs s_ranks_by_masks) (defBody s_ranks_by_masks) (defScope s_ranks_by_masks) [] [] f fd) (hm : mg "ranks_by_masks" = some (.ref f)) (m_max : mg "max" = none) (m_range : mg "range" = none) (F_digits_in : Fc P w K mg base "digits_in" ["mask", "many"] k (FP (R_digits_in))) (F_ones_of : Fc P w K mg base "ones_of" ["mask"] k (FP (R_ones_of))) :
    Fc P w K mg base "ranks_by_masks" ["many", "masks"] (k + 1) (FP (R_ranks_by_masks)) := by
  have Sc := sc_ranks_by_masks
  refine fc_of F hm Sc (by decide) (fun _ _ _ _ _ _ us hl => match us, hl with | [_, _], _ => rfl) (FP.par (n := 2) fun ds r h => by obtain ⟨_, _, _, rfl, _⟩ := h; rfl) fun cdv A outer s H E hr as r as' hS => ?_
  obtain ⟨ds, e1, e2, h⟩ := hS
  have pk : ∀ ρ, ParOk as as' ρ := fun ρ => FP.ok e1 e2
  subst e1
  have hu := hr.units
  show XS _ _ _ (kF r (ParOk _ as'))
  generalize ParOk _ as' = PK at pk ⊢
  obtain ⟨many_, masks_, ho, e3, e4⟩ := h
  subst e3 e4
  show XS _ _ [.fz (eN many_), .fz ((eLst eN) masks_), .un, .un, .un, .un] (kF ((fun v => Var.ow ((eLst eN) v)) (m_ranks_by_masks many_ masks_)) PK)
  exact (xs_setG 2 (fun v => Var.ow ((eLst D.bl) v)) (List.replicate (1 <<< many_) false) (fun is_fre_1 => ok_ranks_by_masks_18 many_ masks_ is_fre_1) (fun is_fre_1 => [.fz (eN many_), .fz ((eLst eN) masks_), .ow ((eLst D.bl) is_fre_1), .un, .un, .un]) (fun is_fre_1 => kF ((fun v => Var.ow ((eLst eN) v)) (m_ranks_by_masks_17 many_ masks_ is_fre_1)) PK) (ev_rep1 (ev_fr (ev_lstT D.bl ([false] : List Bool) (ea_cons ev_bl ea_nil))) (ev_shlN (i := 1) (j := many_) (ev_natC (n := 1)) (ev_var (i := 0) rfl rfl) ho.1 (by decide)) ho.2.1) Sc.nd rfl (by first | exact .inl rfl | exact .inr rfl) ho.2.2 (fun is_fre_1 hv => (xs_forPG (js := [3]) (masks_) eN (fun s2 : ((List Bool)) => [.fz (eN many_), .fz ((eLst eN) masks_), .ow ((eLst D.bl) s2), .un, .un, .un]) (fun s2 x3 => st_ranks_by_masks_1 s2 x3) is_fre_1 (fun s2 x3 => sk_ranks_by_masks_2 s2 x3) (fun s4 => ok_ranks_by_masks_16 many_ s4) (fun s4 => kF ((fun v => Var.ow ((eLst eN) v)) (m_ranks_by_masks_15 many_ s4)) PK) (ei_list (ev_var (i := 1) rfl rfl)) hv.1 (fun s2 x3 hx ho => (xg_name 3 Sc.nd rfl (by first | exact .inl rfl | exact .inr rfl) (xs_item (i := 2) (w := false) [.fz (eN many_), .fz ((eLst eN) masks_), .ow ((eLst D.bl) (s2.set x3 true)), .fz (eN x3), .un, .un] ev_bl rfl rfl (ev_var (i := 3) rfl rfl) rfl ho (xs_un 3 (xs_nil rfl))))) hv.2 (fun s4 hv => (xs_forPG (js := [3]) (dnN (1 <<< many_)) eN (fun s5 : ((List Bool)) => [.fz (eN many_), .fz ((eLst eN) masks_), .ow ((eLst D.bl) s5), .un, .un, .un]) (fun s5 x6 => st_ranks_by_masks_6 many_ s5 x6) s4 (fun s5 x6 => sk_ranks_by_masks_7 many_ s5 x6) (fun s7 => ok_ranks_by_masks_14 many_ s7) (fun s7 => kF ((fun v => Var.ow ((eLst eN) v)) (m_ranks_by_masks_13 many_ s7)) PK) (ei_down (by rfl) m_range (ea_cons (ev_sub (ev_shlN (i := 1) (j := many_) (ev_natC (n := 1)) (ev_var (i := 0) rfl rfl) hv.1 (by decide)) (ev_natC (n := 1))) (ea_cons ev_m1 (ea_1 ev_m1))) rfl hv.2.1) hv.2.2.1 (fun s5 x6 hx ho => (xg_name 3 Sc.nd rfl (by first | exact .inl rfl | exact .inr rfl) (xs_ifE (et_peek (et_val (ev_ixLN (enc := D.bl) (l := s5) (i := x6) (ev_var (i := 2) rfl rfl) (ev_var (i := 3) rfl rfl) ho.1))) (fun hc8 => XS.ift (fun w => kL ((fun s5 : ((List Bool)) => [.fz (eN many_), .fz ((eLst eN) masks_), .ow ((eLst D.bl) s5), .un, .un, .un]) w)) hc8 (xs_forPG (js := [4]) ((m_digits_in x6 many_)) eN (fun s9 : ((List Bool)) => [.fz (eN many_), .fz ((eLst eN) masks_), .ow ((eLst D.bl) s9), .fz (eN x6), .un, .un]) (fun s9 x10 => st_ranks_by_masks_3 x6 s9 x10) s5 (fun s9 x10 => sk_ranks_by_masks_4 x6 s9 x10) (fun _ => True) (fun s11 => kL ((fun s5 : ((List Bool)) => [.fz (eN many_), .fz ((eLst eN) masks_), .ow ((eLst D.bl) s5), .un, .un, .un]) (m_ranks_by_masks_5 s11))) (ei_list (ev_fr (ev_call F_digits_in hr (by rfl) pass0 (ea_cons (ev_var (i := 3) rfl rfl) (ea_cons (ev_var (i := 0) rfl rfl) ea_nil)) (FP.mk ⟨x6, many_, (ho.2 hc8).1, rfl, rfl⟩)))) (ho.2 hc8).2 (fun s9 x10 hx ho => (xg_name 4 Sc.nd rfl (by first | exact .inl rfl | exact .inr rfl) (xs_item (i := 2) (w := false) [.fz (eN many_), .fz ((eLst eN) masks_), .ow ((eLst D.bl) (s9.set (x6 ^^^ x10) true)), .fz (eN x6), .fz (eN x10), .un] ev_bl rfl rfl (ev_xorN (i := x6) (j := x10) (ev_var (i := 3) rfl rfl) (ev_var (i := 4) rfl rfl)) rfl ho (xs_un 4 (xs_nil rfl))))) trivial (fun s11 hv => (xs_un 3 (xs_nil rfl))))) (fun hc8 => XS.iff (fun w => kL ((fun s5 : ((List Bool)) => [.fz (eN many_), .fz ((eLst eN) masks_), .ow ((eLst D.bl) s5), .un, .un, .un]) w)) hc8 (xs_un 3 (xs_nil rfl)))))) hv.2.2.2 (fun s7 hv => (xs_setG 5 (fun v => Var.ow ((eLst eN) v)) ([] : List Nat) (fun ranks_12 => ok_ranks_by_masks_12 many_ s7 ranks_12) (fun ranks_12 => [.fz (eN many_), .fz ((eLst eN) masks_), .ow ((eLst D.bl) s7), .un, .un, .ow ((eLst eN) ranks_12)]) (fun ranks_12 => kF ((fun v => Var.ow ((eLst eN) v)) (m_ranks_by_masks_11 many_ s7 ranks_12)) PK) (ev_lstT eN ([] : List Nat) ea_nil) Sc.nd rfl (by first | exact .inl rfl | exact .inr rfl) hv (fun ranks_12 hv => (xs_forPG (js := [3]) (List.range (1 <<< many_)) eN (fun s13 : ((List Nat)) => [.fz (eN many_), .fz ((eLst eN) masks_), .ow ((eLst D.bl) s7), .un, .un, .ow ((eLst eN) s13)]) (fun s13 x14 => st_ranks_by_masks_8 many_ s7 s13 x14) ranks_12 (fun s13 x14 => sk_ranks_by_masks_9 many_ s7 s13 x14) (fun _ => True) (fun s15 => kF ((fun v => Var.ow ((eLst eN) v)) (m_ranks_by_masks_10 s15)) PK) (ei_rangeN (by rfl) m_range (ea_1 (ev_shlN (i := 1) (j := many_) (ev_natC (n := 1)) (ev_var (i := 0) rfl rfl) hv.1 (by decide))) hv.2.1) hv.2.2 (fun s13 x14 hx ho => (xg_name 3 Sc.nd rfl (by first | exact .inl rfl | exact .inr rfl) (xs_ifE (et_peek (et_val (ev_ixLN (enc := D.bl) (l := s7) (i := x14) (ev_var (i := 2) rfl rfl) (ev_var (i := 3) rfl rfl) ho.1))) (fun hc16 => XS.ift (fun w => kL ((fun s13 : ((List Nat)) => [.fz (eN many_), .fz ((eLst eN) masks_), .ow ((eLst D.bl) s7), .un, .un, .ow ((eLst eN) s13)]) w)) hc16 (xs_app (i := 5) (w := false) [.fz (eN many_), .fz ((eLst eN) masks_), .ow ((eLst D.bl) s7), .fz (eN x14), .un, .ow ((eLst eN) (s13 ++ [(m_ones_of x14)]))] rfl rfl (ev_call F_ones_of hr (by rfl) pass0 (ea_cons (ev_var (i := 3) rfl rfl) ea_nil) (FP.mk ⟨x14, (ho.2.1 hc16).1, rfl, rfl⟩)) rfl (ho.2.1 hc16).2 (xs_un 3 (xs_nil rfl)))) (fun hc16 => XS.iff (fun w => kL ((fun s13 : ((List Nat)) => [.fz (eN many_), .fz ((eLst eN) masks_), .ow ((eLst D.bl) s7), .un, .un, .ow ((eLst eN) s13)]) w)) hc16 (xs_app (i := 5) (w := false) [.fz (eN many_), .fz ((eLst eN) masks_), .ow ((eLst D.bl) s7), .fz (eN x14), .un, .ow ((eLst eN) (s13 ++ [(maxL ltN (((m_digits_in x14 many_)).map (fun x17 => (nth s13 (x14 ^^^ x17)))))]))] rfl rfl (ev_peek (ev_maxT Dat.nat (by decide) hu (by rfl) m_max rfl (ea_1 (ev_fr (ev_lcM (own := [("digit", 4)]) (js := [4]) ((m_digits_in x14 many_)) eN eN (fun x17 => [.fz (eN many_), .fz ((eLst eN) masks_), .fz ((eLst D.bl) s7), .fz (eN x14), .fz (eN x17), .fz ((eLst eN) s13)]) (fun x17 => (nth s13 (x14 ^^^ x17))) rfl Sc.nd (ei_list (ev_fr (ev_call F_digits_in hr (by rfl) pass0 (ea_cons (ev_var (i := 3) rfl rfl) (ea_cons (ev_var (i := 0) rfl rfl) ea_nil)) (FP.mk ⟨x14, many_, (ho.2.2 hc16).1, rfl, rfl⟩)))) (blkOk_by (own := [("digit", 4)]) (by kernel_rfl)) (by decide) (fun _ _ => rfl) (fun x17 _ _ _ _ _ _ => (xg_name 4 Sc.nd rfl (by first | exact .inl rfl | exact .inr rfl) rfl)) (fun x17 hx17 _ _ _ _ _ => (ev_ixLN (enc := eN) (l := s13) (i := (x14 ^^^ x17)) (ev_var (i := 5) rfl rfl) (ev_xorN (i := x14) (j := x17) (ev_var (i := 3) rfl rfl) (ev_var (i := 4) rfl rfl)) ((ho.2.2 hc16).2.2.1 x17 hx17))) (Nat.lt_of_le_of_lt (ho.2.2 hc16).2.1 (by decide))))) (ho.2.2 hc16).2.2.2.1) rfl) rfl (ho.2.2 hc16).2.2.2.2 (xs_un 3 (xs_nil rfl))))))) trivial (fun s15 hv => (xs_one (x1_retMv 5 rfl rfl ⟨rfl, pk _⟩))))))))))))
/-! ### has_pair_fault -/
abbrev s_has_pair_fault : Stmt := top 23
abbrev N_has_pair_fault : List Str := ["ranks", "many", "full", "mask", "still", "whole", "digit"]
theorem sc_has_pair_fault : FnScope N_has_pair_fault ["ranks", "many"] (defScope s_has_pair_fault) := ⟨rfl, rfl, rfl, by decide +kernel, rfl, by decide +kernel, by decide +kernel⟩
def m_has_pair_fault_1 (ranks_ : (List Nat)) (x3 : Nat) (whole_7 : Nat) : Ct Unit Bool := (if (decide ((nth ranks_ x3) < (nth ranks_ whole_7))) = true then (.rt true) else (.go ()))
def ok_has_pair_fault_2 (ranks_ : (List Nat)) (x3 : Nat) (whole_7 : Nat) : Prop := (whole_7 < ranks_.length) ∧ (x3 < ranks_.length)
def m_has_pair_fault_3 (ranks_ : (List Nat)) (x3 : Nat) (still_6 : (List Nat)) : Ct Unit Bool := (m_has_pair_fault_1 ranks_ x3 (x3 + still_6.sum))
def ok_has_pair_fault_4 (ranks_ : (List Nat)) (x3 : Nat) (still_6 : (List Nat)) : Prop := (ok_has_pair_fault_2 ranks_ x3 (x3 + still_6.sum))
def st_has_pair_fault_5 (ranks_ : (List Nat)) (many_ : Nat) (full_1 : Nat) (s2 : Unit) (x3 : Nat) : Ct Unit Bool := (m_has_pair_fault_3 ranks_ x3 ((((m_digits_in (full_1 ^^^ x3) many_)).filter (fun x5 => (decide ((nth ranks_ (x3 ||| x5)) = (nth ranks_ x3))))).map (fun x5 => x5)))
def sk_has_pair_fault_6 (ranks_ : (List Nat)) (many_ : Nat) (full_1 : Nat) (s2 : Unit) (x3 : Nat) : Prop := (ok_digits_in (full_1 ^^^ x3) many_) ∧ (((m_digits_in (full_1 ^^^ x3) many_)).length ≤ 1000000) ∧ (∀ x5 ∈ (m_digits_in (full_1 ^^^ x3) many_), ((x3 ||| x5) < ranks_.length) ∧ (x3 < ranks_.length)) ∧ (ok_has_pair_fault_4 ranks_ x3 ((((m_digits_in (full_1 ^^^ x3) many_)).filter (fun x5 => (decide ((nth ranks_ (x3 ||| x5)) = (nth ranks_ x3))))).map (fun x5 => x5)))
def m_has_pair_fault_7 (s4 : Unit) : Bool := false
def m_has_pair_fault_8 (ranks_ : (List Nat)) (many_ : Nat) (full_1 : Nat) : Bool := ((loopC (fun s2 x3 => st_has_pair_fault_5 ranks_ many_ full_1 s2 x3) (List.range (1 <<< many_)) ()).out (fun s4 => m_has_pair_fault_7 s4))
def ok_has_pair_fault_9 (ranks_ : (List Nat)) (many_ : Nat) (full_1 : Nat) : Prop := (many_ ≤ 1000000) ∧ ((1 <<< many_) < 2 ^ 62) ∧ (okC (fun s2 x3 => sk_has_pair_fault_6 ranks_ many_ full_1 s2 x3) (fun s2 x3 => st_has_pair_fault_5 ranks_ many_ full_1 s2 x3) (List.range (1 <<< many_)) ())
def m_has_pair_fault (ranks_ : (List Nat)) (many_ : Nat) : Bool := (m_has_pair_fault_8 ranks_ many_ ((1 <<< many_) - 1))
def ok_has_pair_fault (ranks_ : (List Nat)) (many_ : Nat) : Prop := (many_ ≤ 1000000) ∧ (ok_has_pair_fault_9 ranks_ many_ ((1 <<< many_) - 1))
def R_has_pair_fault (ds : List D) (r : Var) : Prop := ∃ (ranks_ : (List Nat)) (many_ : Nat), ok_has_pair_fault ranks_ many_ ∧ ds = [(eLst eN) ranks_, eN many_] ∧ r = (fun v => Var.fz (D.bl v)) (m_has_pair_fault ranks_ many_)
theorem c_has_pair_fault {k : Nat} (F : FunD K "has_pair_fault" "has_pair_fault" (defArgs s_has_pair_fault) (defBody s_has_pair_fault) (defScope s_has_pair_fault) [] [] f fd) (hm : mg "has_pair_fault" = some (.ref f)) (m_range : mg "range" = none) (m_sum : mg "sum" = none) (F_digits_in : Fc P w K mg base "digits_in" ["mask", "many"] k (FP (R_digits_in))) :
    Fc P w K mg base "has_pair_fault" ["ranks", "many"] (k + 1) (FP (R_has_pair_fault)) := by
  have Sc := sc_has_pair_fault
  refine fc_of F hm Sc (by decide) (fun _ _ _ _ _ _ us hl => match us, hl with | [_, _], _ => rfl) (FP.par (n := 2) fun ds r h => by obtain ⟨_, _, _, rfl, _⟩ := h; rfl) fun cdv A outer s H E hr as r as' hS => ?_
  obtain ⟨ds, e1, e2, h⟩ := hS
  have pk : ∀ ρ, ParOk as as' ρ := fun ρ => FP.ok e1 e2
  subst e1
  have hu := hr.units
  show XS _ _ _ (kF r (ParOk _ as'))
  generalize ParOk _ as' = PK at pk ⊢
  obtain ⟨ranks_, many_, ho, e3, e4⟩ := h
  subst e3 e4
  show XS _ _ [.fz ((eLst eN) ranks_), .fz (eN many_), .un, .un, .un, .un, .un] (kF ((fun v => Var.fz (D.bl v)) (m_has_pair_fault ranks_ many_)) PK)
  exact (xs_setG 2 (fun v => Var.fz (eN v)) ((1 <<< many_) - 1) (fun full_1 => ok_has_pair_fault_9 ranks_ many_ full_1) (fun full_1 => [.fz ((eLst eN) ranks_), .fz (eN many_), .fz (eN full_1), .un, .un, .un, .un]) (fun full_1 => kF ((fun v => Var.fz (D.bl v)) (m_has_pair_fault_8 ranks_ many_ full_1)) PK) (ev_subN (ev_shlN (i := 1) (j := many_) (ev_natC (n := 1)) (ev_var (i := 1) rfl rfl) ho.1 (by decide)) (ev_natC (n := 1)) (one_le_shl _)) Sc.nd rfl (by first | exact .inl rfl | exact .inr rfl) ho.2 (fun full_1 hv => (xs_forF (js := [3]) (List.range (1 <<< many_)) eN (fun s2 : Unit => [.fz ((eLst eN) ranks_), .fz (eN many_), .fz (eN full_1), .un, .un, .un, .un]) (fun s2 x3 => st_has_pair_fault_5 ranks_ many_ full_1 s2 x3) () (fun s2 x3 => sk_has_pair_fault_6 ranks_ many_ full_1 s2 x3) (fun v => Var.fz (D.bl v)) (fun s4 => m_has_pair_fault_7 s4) (ei_rangeN (by rfl) m_range (ea_1 (ev_shlN (i := 1) (j := many_) (ev_natC (n := 1)) (ev_var (i := 1) rfl rfl) hv.1 (by decide))) hv.2.1) hv.2.2 (fun s2 x3 hx ho => (xg_name 3 Sc.nd rfl (by first | exact .inl rfl | exact .inr rfl) (xs_setLcG (own := [("digit", 6)]) (js := [6]) 4 ((m_digits_in (full_1 ^^^ x3) many_)) eN eN (fun x5 => [.fz ((eLst eN) ranks_), .fz (eN many_), .fz (eN full_1), .fz (eN x3), .un, .un, .fz (eN x5)]) (fun x5 => (decide ((nth ranks_ (x3 ||| x5)) = (nth ranks_ x3)))) (fun x5 => x5) (fun still_6 => ok_has_pair_fault_4 ranks_ x3 still_6) (fun still_6 => [.fz ((eLst eN) ranks_), .fz (eN many_), .fz (eN full_1), .fz (eN x3), .fz ((eLst eN) still_6), .un, .un]) (fun still_6 => kB (R := Bool) (m_has_pair_fault_3 ranks_ x3 still_6) (fun s2 : Unit => [.fz ((eLst eN) ranks_), .fz (eN many_), .fz (eN full_1), .un, .un, .un, .un]) (fun v => Var.fz (D.bl v)) PK) rfl Sc.nd rfl rfl (ei_list (ev_fr (ev_call F_digits_in hr (by rfl) pass0 (ea_cons (ev_xorN (i := full_1) (j := x3) (ev_var (i := 2) rfl rfl) (ev_var (i := 3) rfl rfl)) (ea_cons (ev_var (i := 1) rfl rfl) ea_nil)) (FP.mk ⟨(full_1 ^^^ x3), many_, ho.1, rfl, rfl⟩)))) (blkOk_by (own := [("digit", 6)]) (by kernel_rfl)) (by decide) (fun _ _ => rfl) (fun x5 _ _ _ _ _ _ => (xg_name 6 Sc.nd rfl (by first | exact .inl rfl | exact .inr rfl) rfl)) (fun x5 hx5 _ _ _ _ _ => ets_one (et_cp (cp_eqN (i := (nth ranks_ (x3 ||| x5))) (j := (nth ranks_ x3)) (ev_ixLN (enc := eN) (l := ranks_) (i := (x3 ||| x5)) (ev_var (i := 0) rfl rfl) (ev_orN (i := x3) (j := x5) (ev_var (i := 3) rfl rfl) (ev_var (i := 6) rfl rfl)) (ho.2.2.1 x5 hx5).1) (ev_ixLN (enc := eN) (l := ranks_) (i := x3) (ev_var (i := 0) rfl rfl) (ev_var (i := 3) rfl rfl) (ho.2.2.1 x5 hx5).2)))) (fun x5 hx5 hqx5 _ _ _ _ _ => (ev_var (i := 6) rfl rfl)) (Nat.lt_of_le_of_lt ho.2.1 (by decide)) ho.2.2.2 (fun still_6 hv => (xs_setG 5 (fun v => Var.fz (eN v)) (x3 + still_6.sum) (fun whole_7 => ok_has_pair_fault_2 ranks_ x3 whole_7) (fun whole_7 => [.fz ((eLst eN) ranks_), .fz (eN many_), .fz (eN full_1), .fz (eN x3), .fz ((eLst eN) still_6), .fz (eN whole_7), .un]) (fun whole_7 => kB (R := Bool) (m_has_pair_fault_1 ranks_ x3 whole_7) (fun s2 : Unit => [.fz ((eLst eN) ranks_), .fz (eN many_), .fz (eN full_1), .un, .un, .un, .un]) (fun v => Var.fz (D.bl v)) PK) (ev_addN (i := x3) (j := still_6.sum) (ev_var (i := 3) rfl rfl) (ev_sumN (by rfl) m_sum rfl (ea_1 (ev_var (i := 4) rfl rfl)))) Sc.nd rfl (by first | exact .inl rfl | exact .inr rfl) hv (fun whole_7 hv => (xs_ifN (et_cp (cp_gtN (i := (nth ranks_ whole_7)) (j := (nth ranks_ x3)) (ev_ixLN (enc := eN) (l := ranks_) (i := whole_7) (ev_var (i := 0) rfl rfl) (ev_var (i := 5) rfl rfl) hv.1) (ev_ixLN (enc := eN) (l := ranks_) (i := x3) (ev_var (i := 0) rfl rfl) (ev_var (i := 3) rfl rfl) hv.2))) (fun hc8 => XS.ift (fun w => noNx (kB (R := Bool) w (fun s2 : Unit => [.fz ((eLst eN) ranks_), .fz (eN many_), .fz (eN full_1), .un, .un, .un, .un]) (fun v => Var.fz (D.bl v)) PK)) hc8 (xs_one (x1_ret ev_bl ⟨_, rfl, rfl, pk _⟩))) (fun hc8 => XS.iff (fun w => kB (R := Bool) w (fun s2 : Unit => [.fz ((eLst eN) ranks_), .fz (eN many_), .fz (eN full_1), .un, .un, .un, .un]) (fun v => Var.fz (D.bl v)) PK) hc8 (xs_un 5 (xs_un 4 (xs_un 3 (xs_nil ⟨_, rfl, rfl⟩)))))))))))) (fun s4 hqs4 => (xs_one (x1_ret ev_bl ⟨rfl, pk _⟩))))))
/-! ### bases_by_ranks -/
abbrev s_bases_by_ranks : Stmt := top 24
abbrev N_bases_by_ranks : List Str := ["ground", "ranks", "mask"]
theorem sc_bases_by_ranks : FnScope N_bases_by_ranks ["ground", "ranks"] (defScope s_bases_by_ranks) := ⟨rfl, rfl, rfl, by decide +kernel, rfl, by decide +kernel, by decide +kernel⟩
def m_bases_by_ranks (ground_ : (List Nat)) (ranks_ : (List Nat)) : (List (List Nat)) := (m_sets_from ground_ (((List.range ranks_.length).filter (fun x1 => (decide ((nth ranks_ x1) = (las ranks_)) && decide ((las ranks_) = (m_ones_of x1))))).map (fun x1 => x1)))
def ok_bases_by_ranks (ground_ : (List Nat)) (ranks_ : (List Nat)) : Prop := (ranks_.length < 2 ^ 62) ∧ ((List.range ranks_.length).length ≤ 1000000) ∧ (∀ x1 ∈ List.range ranks_.length, (x1 < ranks_.length) ∧ (0 < ranks_.length) ∧ (decide ((nth ranks_ x1) = (las ranks_)) = true → (ok_ones_of x1))) ∧ (ok_sets_from ground_ (((List.range ranks_.length).filter (fun x1 => (decide ((nth ranks_ x1) = (las ranks_)) && decide ((las ranks_) = (m_ones_of x1))))).map (fun x1 => x1)))
def R_bases_by_ranks (ds : List D) (r : Var) : Prop := ∃ (ground_ : (List Nat)) (ranks_ : (List Nat)), ok_bases_by_ranks ground_ ranks_ ∧ ds = [(eTup eN) ground_, (eLst eN) ranks_] ∧ r = (fun v => Var.fz ((eTup (eTup eN)) v)) (m_bases_by_ranks ground_ ranks_)
theorem c_bases_by_ranks {k : Nat} (F : FunD K "bases_by_ranks" "bases_by_ranks" (defArgs s_bases_by_ranks) (defBody s_bases_by_ranks) (defScope s_bases_by_ranks) [] [] f fd) (hm : mg "bases_by_ranks" = some (.ref f)) (m_len : mg "len" = none) (m_range : mg "range" = none) (F_ones_of : Fc P w K mg base "ones_of" ["mask"] k (FP (R_ones_of))) (F_sets_from : Fc P w K mg base "sets_from" ["ground", "masks"] k (FP (R_sets_from))) :
    Fc P w K mg base "bases_by_ranks" ["ground", "ranks"] (k + 1) (FP (R_bases_by_ranks)) := by
  have Sc := sc_bases_by_ranks
  refine fc_of F hm Sc (by decide) (fun _ _ _ _ _ _ us hl => match us, hl with | [_, _], _ => rfl) (FP.par (n := 2) fun ds r h => by obtain ⟨_, _, _, rfl, _⟩ := h; rfl) fun cdv A outer s H E hr as r as' hS => ?_
  obtain ⟨ds, e1, e2, h⟩ := hS
  have pk : ∀ ρ, ParOk as as' ρ := fun ρ => FP.ok e1 e2
  subst e1
  have hu := hr.units
  show XS _ _ _ (kF r (ParOk _ as'))
  generalize ParOk _ as' = PK at pk ⊢
  obtain ⟨ground_, ranks_, ho, e3, e4⟩ := h
  subst e3 e4
  show XS _ _ [.fz ((eTup eN) ground_), .fz ((eLst eN) ranks_), .un] (kF ((fun v => Var.fz ((eTup (eTup eN)) v)) (m_bases_by_ranks ground_ ranks_)) PK)
  exact (xs_one (x1_ret (ev_call F_sets_from hr (by rfl) pass0 (ea_cons (ev_var (i := 0) rfl rfl) (ea_cons (ev_fr (ev_lcF (own := [("mask", 2)]) (js := [2]) (List.range ranks_.length) eN eN (fun x1 => [.fz ((eTup eN) ground_), .fz ((eLst eN) ranks_), .fz (eN x1)]) (fun x1 => (decide ((nth ranks_ x1) = (las ranks_)) && decide ((las ranks_) = (m_ones_of x1)))) (fun x1 => x1) rfl Sc.nd (ei_rangeN (by rfl) m_range (ea_1 (ev_as (ev_len (by rfl) m_len (ea_1 (ev_var (i := 1) rfl rfl)) rfl) (by rw [List.length_map]))) ho.1) (blkOk_by (own := [("mask", 2)]) (by kernel_rfl)) (by decide) (fun _ _ => rfl) (fun x1 _ _ _ _ _ _ => (xg_name 2 Sc.nd rfl (by first | exact .inl rfl | exact .inr rfl) rfl)) (fun x1 hx1 _ _ _ _ _ => ets_one (et_chn op_eq op_eq (ev_ixLN (enc := eN) (l := ranks_) (i := x1) (ev_var (i := 1) rfl rfl) (ev_var (i := 2) rfl rfl) (ho.2.2.1 x1 hx1).1) (ev_ixLl (enc := eN) (l := ranks_) (ev_var (i := 1) rfl rfl) ev_m1 (ho.2.2.1 x1 hx1).2.1) (fun hc => (ev_call F_ones_of hr (by rfl) pass0 (ea_cons (ev_var (i := 2) rfl rfl) ea_nil) (FP.mk ⟨x1, ((ho.2.2.1 x1 hx1).2.2 hc), rfl, rfl⟩))) odEqN (fun _ => odEqN))) (fun x1 hx1 hqx1 _ _ _ _ _ => (ev_var (i := 2) rfl rfl)) (Nat.lt_of_le_of_lt ho.2.1 (by decide)))) ea_nil)) (FP.mk ⟨ground_, ((List.range ranks_.length).filter (fun x1 => (decide ((nth ranks_ x1) = (las ranks_)) && decide ((las ranks_) = (m_ones_of x1))))).map (fun x1 => x1), ho.2.2.2, rfl, rfl⟩)) ⟨rfl, pk _⟩))
/-! ### need_ground -/
abbrev s_need_ground : Stmt := top 46
abbrev N_need_ground : List Str := ["value"]
theorem sc_need_ground : FnScope N_need_ground ["value"] (defScope s_need_ground) := ⟨rfl, rfl, rfl, by decide +kernel, rfl, by decide +kernel, by decide +kernel⟩
def m_need_ground (value_ : (List Nat)) : Unit := ()
def ok_need_ground (value_ : (List Nat)) : Prop := (ok_is_ground value_) ∧ ((!(m_is_ground value_)) = false)
def R_need_ground (ds : List D) (r : Var) : Prop := ∃ (value_ : (List Nat)), ok_need_ground value_ ∧ ds = [(eTup eN) value_] ∧ r = (fun v => Var.fz ((fun _ : Unit => D.non) v)) (m_need_ground value_)
theorem c_need_ground {k : Nat} (F : FunD K "need_ground" "need_ground" (defArgs s_need_ground) (defBody s_need_ground) (defScope s_need_ground) [] [] f fd) (hm : mg "need_ground" = some (.ref f)) (F_is_ground : Fc P w K mg base "is_ground" ["value"] k (FP (R_is_ground))) :
    Fc P w K mg base "need_ground" ["value"] (k + 1) (FP (R_need_ground)) := by
  have Sc := sc_need_ground
  refine fc_of F hm Sc (by decide) (fun _ _ _ _ _ _ us hl => match us, hl with | [_], _ => rfl) (FP.par (n := 1) fun ds r h => by obtain ⟨_, _, rfl, _⟩ := h; rfl) fun cdv A outer s H E hr as r as' hS => ?_
  obtain ⟨ds, e1, e2, h⟩ := hS
  have pk : ∀ ρ, ParOk as as' ρ := fun ρ => FP.ok e1 e2
  subst e1
  have hu := hr.units
  show XS _ _ _ (kF r (ParOk _ as'))
  generalize ParOk _ as' = PK at pk ⊢
  obtain ⟨value_, ho, e3, e4⟩ := h
  subst e3 e4
  show XS _ _ [.fz ((eTup eN) value_)] (kF ((fun v => Var.fz ((fun _ : Unit => D.non) v)) (m_need_ground value_)) PK)
  exact (xs_ifN (et_not (et_val (ev_call F_is_ground hr (by rfl) pass0 (ea_cons (ev_var (i := 0) rfl rfl) ea_nil) (FP.mk ⟨value_, ho.1, rfl, rfl⟩)))) (fun hc1 => Bool.noConfusion (hc1.symm.trans ho.2)) (fun _ => (xs_nil ⟨rfl, pk _⟩)))
/-! ### checked_ranks -/
abbrev s_checked_ranks : Stmt := top 44
abbrev N_checked_ranks : List Str := ["ground", "bases", "ranks", "base"]
theorem sc_checked_ranks : FnScope N_checked_ranks ["ground", "bases"] (defScope s_checked_ranks) := ⟨rfl, rfl, rfl, by decide +kernel, rfl, by decide +kernel, by decide +kernel⟩
def m_checked_ranks_1 (ground_ : (List Nat)) (ranks_4 : (List Nat)) : (List Nat) := (if (!(m_has_pair_fault ranks_4 ground_.length)) = true then ranks_4 else default)
def ok_checked_ranks_2 (ground_ : (List Nat)) (ranks_4 : (List Nat)) : Prop := (ok_has_pair_fault ranks_4 ground_.length) ∧ ((!(m_has_pair_fault ranks_4 ground_.length)) = false → (False))
def m_checked_ranks (ground_ : (List Nat)) (bases_ : (List (List Nat))) : (List Nat) := (if ((!decide (bases_ = ([] : List (List Nat)))) && (((bases_).map (fun x1 => (decide (x1.length = (nth bases_ 0).length)))).all id)) = true then (m_checked_ranks_1 ground_ (m_ranks_by_masks ground_.length ((bases_).map (fun x3 => (m_mask_from ground_ x3))))) else default)
def ok_checked_ranks (ground_ : (List Nat)) (bases_ : (List (List Nat))) : Prop := ((!decide (bases_ = ([] : List (List Nat)))) = true → ((bases_).length ≤ 1000000) ∧ (∀ x1 ∈ bases_, (0 < bases_.length))) ∧ (((!decide (bases_ = ([] : List (List Nat)))) && (((bases_).map (fun x1 => (decide (x1.length = (nth bases_ 0).length)))).all id)) = true → ((bases_).length ≤ 1000000) ∧ (∀ x3 ∈ bases_, (ok_mask_from ground_ x3)) ∧ (ok_ranks_by_masks ground_.length ((bases_).map (fun x3 => (m_mask_from ground_ x3)))) ∧ (ok_checked_ranks_2 ground_ (m_ranks_by_masks ground_.length ((bases_).map (fun x3 => (m_mask_from ground_ x3)))))) ∧ (((!decide (bases_ = ([] : List (List Nat)))) && (((bases_).map (fun x1 => (decide (x1.length = (nth bases_ 0).length)))).all id)) = false → (False))
def R_checked_ranks (ds : List D) (r : Var) : Prop := ∃ (ground_ : (List Nat)) (bases_ : (List (List Nat))), ok_checked_ranks ground_ bases_ ∧ ds = [(eTup eN) ground_, (eTup (eTup eN)) bases_] ∧ r = (fun v => Var.fz ((eLst eN) v)) (m_checked_ranks ground_ bases_)
theorem c_checked_ranks {k : Nat} (F : FunD K "checked_ranks" "checked_ranks" (defArgs s_checked_ranks) (defBody s_checked_ranks) (defScope s_checked_ranks) [] [] f fd) (hm : mg "checked_ranks" = some (.ref f)) (m_all : mg "all" = none) (m_len : mg "len" = none) (F_mask_from : Fc P w K mg base "mask_from" ["ground", "members"] k (FP (R_mask_from))) (F_ranks_by_masks : Fc P w K mg base "ranks_by_masks" ["many", "masks"] k (FP (R_ranks_by_masks))) (F_has_pair_fault : Fc P w K mg base "has_pair_fault" ["ranks", "many"] k (FP (R_has_pair_fault))) :
    Fc P w K mg base "checked_ranks" ["ground", "bases"] (k + 1) (FP (R_checked_ranks)) := by
  have Sc := sc_checked_ranks
  refine fc_of F hm Sc (by decide) (fun _ _ _ _ _ _ us hl => match us, hl with | [_, _], _ => rfl) (FP.par (n := 2) fun ds r h => by obtain ⟨_, _, _, rfl, _⟩ := h; rfl) fun cdv A outer s H E hr as r as' hS => ?_
  obtain ⟨ds, e1, e2, h⟩ := hS
  have pk : ∀ ρ, ParOk as as' ρ := fun ρ => FP.ok e1 e2
  subst e1
  have hu := hr.units
  show XS _ _ _ (kF r (ParOk _ as'))
  generalize ParOk _ as' = PK at pk ⊢
  obtain ⟨ground_, bases_, ho, e3, e4⟩ := h
  subst e3 e4
  show XS _ _ [.fz ((eTup eN) ground_), .fz ((eTup (eTup eN)) bases_), .un, .un] (kF ((fun v => Var.fz ((eLst eN) v)) (m_checked_ranks ground_ bases_)) PK)
  exact (xs_cons (x1_if ((ew_and (et_cp (cp_neE (DatE.tup (DatE.tup (DatE.of Dat.nat))) (by decide) hu (ev_var (i := 1) rfl rfl) (ev_tupT (eTup eN) ([] : List (List Nat)) ea_nil))) (fun hc0 => (ew_and1 (et_val (ev_all (by rfl) m_all rfl (ea_1 (ev_fr (ev_lcM (own := [("base", 3)]) (js := [3]) (bases_) (eTup eN) D.bl (fun x1 => [.fz ((eTup eN) ground_), .fz ((eTup (eTup eN)) bases_), .un, .fz ((eTup eN) x1)]) (fun x1 => (decide (x1.length = (nth bases_ 0).length))) rfl Sc.nd (ei_tup (ev_var (i := 1) rfl rfl)) (blkOk_by (own := [("base", 3)]) (by kernel_rfl)) (by decide) (fun _ _ => rfl) (fun x1 _ _ _ _ _ _ => (xg_name 3 Sc.nd rfl (by first | exact .inl rfl | exact .inr rfl) rfl)) (fun x1 hx1 _ _ _ _ _ => (ev_cp (cp_eqN (i := x1.length) (j := (nth bases_ 0).length) (ev_as (ev_len (by rfl) m_len (ea_1 (ev_var (i := 3) rfl rfl)) rfl) (by rw [List.length_map])) (ev_as (ev_len (by rfl) m_len (ea_1 (ev_ixTN (enc := (eTup eN)) (l := bases_) (i := 0) (ev_var (i := 1) rfl rfl) (ev_natC (n := 0)) ((ho.1 hc0).2 x1 hx1))) rfl) (by rw [List.length_map]))))) (Nat.lt_of_le_of_lt (ho.1 hc0).1 (by decide))))))))))).t (fun hc2 => XS.ift (fun w => kC _ _ (kF ((fun v => Var.fz ((eLst eN) v)) w) PK)) hc2 (xs_setG 2 (fun v => Var.fz ((eLst eN) v)) (m_ranks_by_masks ground_.length ((bases_).map (fun x3 => (m_mask_from ground_ x3)))) (fun ranks_4 => ok_checked_ranks_2 ground_ ranks_4) (fun ranks_4 => [.fz ((eTup eN) ground_), .fz ((eTup (eTup eN)) bases_), .fz ((eLst eN) ranks_4), .un]) (fun ranks_4 => kC _ _ (kF ((fun v => Var.fz ((eLst eN) v)) (m_checked_ranks_1 ground_ ranks_4)) PK)) (ev_fr (ev_call F_ranks_by_masks hr (by rfl) pass0 (ea_cons (ev_as (ev_len (by rfl) m_len (ea_1 (ev_var (i := 0) rfl rfl)) rfl) (by rw [List.length_map])) (ea_cons (ev_fr (ev_lcM (own := [("base", 3)]) (js := [3]) (bases_) (eTup eN) eN (fun x3 => [.fz ((eTup eN) ground_), .fz ((eTup (eTup eN)) bases_), .un, .fz ((eTup eN) x3)]) (fun x3 => (m_mask_from ground_ x3)) rfl Sc.nd (ei_tup (ev_var (i := 1) rfl rfl)) (blkOk_by (own := [("base", 3)]) (by kernel_rfl)) (by decide) (fun _ _ => rfl) (fun x3 _ _ _ _ _ _ => (xg_name 3 Sc.nd rfl (by first | exact .inl rfl | exact .inr rfl) rfl)) (fun x3 hx3 _ _ _ _ _ => (ev_call F_mask_from hr (by rfl) pass0 (ea_cons (ev_var (i := 0) rfl rfl) (ea_cons (ev_var (i := 3) rfl rfl) ea_nil)) (FP.mk ⟨ground_, x3, ((ho.2.1 hc2).2.1 x3 hx3), rfl, rfl⟩))) (Nat.lt_of_le_of_lt (ho.2.1 hc2).1 (by decide)))) ea_nil)) (FP.mk ⟨ground_.length, (bases_).map (fun x3 => (m_mask_from ground_ x3)), (ho.2.1 hc2).2.2.1, rfl, rfl⟩))) Sc.nd rfl (by first | exact .inl rfl | exact .inr rfl) (ho.2.1 hc2).2.2.2 (fun ranks_4 hv => (xs_ifN (et_not (et_val (ev_call F_has_pair_fault hr (by rfl) pass0 (ea_cons (ev_var (i := 2) rfl rfl) (ea_cons (ev_as (ev_len (by rfl) m_len (ea_1 (ev_var (i := 0) rfl rfl)) rfl) (by rw [List.length_map])) ea_nil)) (FP.mk ⟨ranks_4, ground_.length, hv.1, rfl, rfl⟩)))) (fun hc5 => XS.ift (fun w => noNx (kC _ _ (kF ((fun v => Var.fz ((eLst eN) v)) w) PK))) hc5 (xs_one (x1_ret (ev_var (i := 2) rfl rfl) ⟨rfl, pk _⟩))) (fun hc5 => XS.iff (fun w => kC _ _ (kF ((fun v => Var.fz ((eLst eN) v)) w) PK)) hc5 (xs_nil (hv.2 hc5).elim)))))) (fun hc2 => xs_nil (XS.iff (fun w => kF ((fun v => Var.fz ((eLst eN) v)) w) PK) hc2 (ho.2.2 hc2).elim))))
/-! ### need_matroid -/
abbrev s_need_matroid : Stmt := top 47
abbrev N_need_matroid : List Str := ["value"]
theorem sc_need_matroid : FnScope N_need_matroid ["value"] (defScope s_need_matroid) := ⟨rfl, rfl, rfl, by decide +kernel, rfl, by decide +kernel, by decide +kernel⟩
def m_need_matroid (value_ : Mat) : Unit := ()
def ok_need_matroid (_value_ : Mat) : Prop := True
def R_need_matroid (C : Addr) (ds : List D) (r : Var) : Prop := ∃ (value_ : Mat), ok_need_matroid value_ ∧ ds = [(eM C) value_] ∧ r = (fun v => Var.fz ((fun _ : Unit => D.non) v)) (m_need_matroid value_)
theorem c_need_matroid {C : Addr} {k : Nat} (F : FunD K "need_matroid" "need_matroid" (defArgs s_need_matroid) (defBody s_need_matroid) (defScope s_need_matroid) [] [] f fd) (hm : mg "need_matroid" = some (.ref f)) (m_isinstance : mg "isinstance" = none) (cl_M : Cls K C) (mg_Matroid : mg "Matroid" = some (.ref C)) (isM : IsM K C) :
    Fc P w K mg base "need_matroid" ["value"] (k + 1) (FP (R_need_matroid C)) := by
  have Sc := sc_need_matroid
  refine fc_of F hm Sc (by decide) (fun _ _ _ _ _ _ us hl => match us, hl with | [_], _ => rfl) (FP.par (n := 1) fun ds r h => by obtain ⟨_, _, rfl, _⟩ := h; rfl) fun cdv A outer s H E hr as r as' hS => ?_
  obtain ⟨ds, e1, e2, h⟩ := hS
  have pk : ∀ ρ, ParOk as as' ρ := fun ρ => FP.ok e1 e2
  subst e1
  have hu := hr.units
  show XS _ _ _ (kF r (ParOk _ as'))
  generalize ParOk _ as' = PK at pk ⊢
  obtain ⟨value_, ho, e3, e4⟩ := h
  subst e3 e4
  show XS _ _ [.fz ((eM C) value_)] (kF ((fun v => Var.fz ((fun _ : Unit => D.non) v)) (m_need_matroid value_)) PK)
  exact (xs_ifN (et_not (b := true) (et_val (ev_isiM (by rfl) m_isinstance (by rfl) mg_Matroid isM cl_M (ev_var (i := 0) rfl rfl)))) (fun hc1 => Bool.noConfusion hc1) (fun _ => (xs_nil ⟨rfl, pk _⟩)))
end
end K66

namespace K66
open PySem PySem.Spec PyProof.Rows L2 DL
section
variable {P : Program} {w : World} {K : PySem.W.Frag} {mg : Str → Option Value} {base : Heap} {f : Addr} {fd : FuncData}
/-! ### Matroid.__init__ -/
def sInit : Stmt := inClass (top 39) 0
abbrev psInit : List Str := ["self", "ground", "bases", "known_ranks"]
theorem sc_init : FnScope psInit psInit (defScope sInit) := ⟨rfl, rfl, rfl, by decide +kernel, rfl, by decide +kernel, by decide +kernel⟩
def m_init1 (g : List Nat) (b : List (List Nat)) : Mat := ⟨g, b, m_checked_ranks g b, (1 <<< g.length) - 1⟩
def m_init2 (g : List Nat) (b : List (List Nat)) (k : List Nat) : Mat := ⟨g, b, k, (1 <<< g.length) - 1⟩
def ok_init1 (g : List Nat) (b : List (List Nat)) : Prop := ok_need_ground g ∧ ok_are_sets_within g b ∧ (!m_are_sets_within g b) = false ∧ ok_checked_ranks g b ∧ g.length ≤ 10
def S_init (C : Addr) : FS := fun as r as' => r = .fz .non ∧
  ((∃ g b k, g.length ≤ 10 ∧ as = .io (.ins C [] []) :: [eTup eN g, eTup (eTup eN) b, eLst eN k].map .fz ∧ as' = .io (eM C (m_init2 g b k)) :: [eTup eN g, eTup (eTup eN) b, eLst eN k].map .fz) ∨
   (∃ g b, ok_init1 g b ∧ as = .io (.ins C [] []) :: [eTup eN g, eTup (eTup eN) b, .non].map .fz ∧ as' = .io (eM C (m_init1 g b)) :: [eTup eN g, eTup (eTup eN) b, .non].map .fz))
theorem c_init {C : Addr} {k : Nat} (F : FunD K "__init__" "Matroid.__init__" (defArgs sInit) (defBody sInit) (defScope sInit) [] [("known_ranks", .non)] f fd) (m_len : mg "len" = none) (cl_M : Cls K C) (na_ground : NoAttr K C "ground") (na_bases : NoAttr K C "bases") (na_own_ranks : NoAttr K C "own_ranks") (na_own_full : NoAttr K C "own_full")
    (F_need_ground : Fc P w K mg base "need_ground" ["value"] k (FP R_need_ground)) (F_are_sets_within : Fc P w K mg base "are_sets_within" ["ground", "value"] k (FP R_are_sets_within)) (F_checked_ranks : Fc P w K mg base "checked_ranks" ["ground", "bases"] k (FP R_checked_ranks)) :
    FnOk P w K mg base CX0 (k + 1) f fd psInit (spF K (S_init C)) := by
  have Sc := sc_init
  refine fnok_of F Sc (by decide) (fun as r as' h => ?_) fun cdv A outer s H E hr as r as' h => ?_
  · rcases h with ⟨_, ⟨g, b, k, _, e1, e2⟩ | ⟨g, b, _, e1, e2⟩⟩ <;> (subst e1 e2; exact ⟨parF_io1, rfl, rfl⟩)
  rcases h with ⟨er, ⟨g, b, q, hl, e1, e2⟩ | ⟨g, b, ho, e1, e2⟩⟩
  · subst er e1 e2
    show XS _ _ [.io (.ins C [] []), .fz (eTup eN g), .fz (eTup (eTup eN) b), .fz (eLst eN q)] _
    exact (xs_ifN (et_cp (cp_isN (ev_var (i := 3) rfl rfl))) (fun hc => Bool.noConfusion (show false = true from hc)) (fun _ =>
      (xs_fld (w := true) 0 [.io (.ins C ["ground"] [eTup eN g]), .fz (eTup eN g), .fz (eTup (eTup eN) b), .fz (eLst eN q)] (ev_var (i := 1) rfl rfl) rfl rfl cl_M na_ground rfl (by decide) rfl
      (xs_fld (w := true) 0 [.io (.ins C ["ground", "bases"] [eTup eN g, eTup (eTup eN) b]), .fz (eTup eN g), .fz (eTup (eTup eN) b), .fz (eLst eN q)] (ev_var (i := 2) rfl rfl) rfl rfl cl_M na_bases (by decide +kernel) (by decide) rfl
      (xs_fld (w := true) 0 [.io (.ins C ["ground", "bases", "own_ranks"] [eTup eN g, eTup (eTup eN) b, eLst eN q]), .fz (eTup eN g), .fz (eTup (eTup eN) b), .fz (eLst eN q)] (ev_var (i := 3) rfl rfl) rfl rfl cl_M na_own_ranks (by decide +kernel) (by decide) rfl
      (xs_fld (w := true) 0 [.io (eM C (m_init2 g b q)), .fz (eTup eN g), .fz (eTup (eTup eN) b), .fz (eLst eN q)] (ev_subN (i := 1 <<< g.length) (j := 1) (ev_shlN (i := 1) (j := g.length) (ev_natC (n := 1)) (ev_as (ev_len (by rfl) m_len (ea_1 (ev_var (i := 1) rfl rfl)) rfl) (by rw [List.length_map])) (Nat.le_trans hl (by decide)) (by decide)) (ev_natC (n := 1)) (one_le_shl _)) rfl rfl cl_M na_own_full (by decide +kernel) (by decide) rfl
      (xs_nil ⟨rfl, ParOk.io1 rfl⟩)))))))
  · subst er e1 e2
    show XS _ _ [.io (.ins C [] []), .fz (eTup eN g), .fz (eTup (eTup eN) b), .fz .non] _
    have hu := hr.units
    exact (xs_cons (x1_if (c := true) (et_cp (cp_isN (x := .non) (ev_var (i := 3) rfl rfl))) (fun _ =>
      (xs_expr [.io (.ins C [] []), .fz (eTup eN g), .fz (eTup (eTup eN) b), .fz .non] (ev_call F_need_ground hr (by rfl) pass0 (ea_cons (ev_var (i := 1) rfl rfl) ea_nil) (FP.mk ⟨g, ho.1, rfl, rfl⟩))
      (xs_ifN (et_not (et_val (ev_call F_are_sets_within hr (by rfl) pass0 (ea_cons (ev_var (i := 1) rfl rfl) (ea_cons (ev_var (i := 2) rfl rfl) ea_nil)) (FP.mk ⟨g, b, ho.2.1, rfl, rfl⟩)))) (fun hc => Bool.noConfusion (hc.symm.trans ho.2.2.1)) (fun _ =>
      (xs_set 3 [.io (.ins C [] []), .fz (eTup eN g), .fz (eTup (eTup eN) b), .fz (eLst eN (m_checked_ranks g b))] (ev_call F_checked_ranks hr (by rfl) pass0 (ea_cons (ev_var (i := 1) rfl rfl) (ea_cons (ev_var (i := 2) rfl rfl) ea_nil)) (FP.mk ⟨g, b, ho.2.2.2.1, rfl, rfl⟩)) Sc.nd rfl (by first | exact .inl rfl | exact .inr rfl)
      (xs_nil (xs_fld (w := true) 0 [.io (.ins C ["ground"] [eTup eN g]), .fz (eTup eN g), .fz (eTup (eTup eN) b), .fz (eLst eN (m_checked_ranks g b))] (ev_var (i := 1) rfl rfl) rfl rfl cl_M na_ground rfl (by decide) rfl
      (xs_fld (w := true) 0 [.io (.ins C ["ground", "bases"] [eTup eN g, eTup (eTup eN) b]), .fz (eTup eN g), .fz (eTup (eTup eN) b), .fz (eLst eN (m_checked_ranks g b))] (ev_var (i := 2) rfl rfl) rfl rfl cl_M na_bases (by decide +kernel) (by decide) rfl
      (xs_fld (w := true) 0 [.io (.ins C ["ground", "bases", "own_ranks"] [eTup eN g, eTup (eTup eN) b, eLst eN (m_checked_ranks g b)]), .fz (eTup eN g), .fz (eTup (eTup eN) b), .fz (eLst eN (m_checked_ranks g b))] (ev_var (i := 3) rfl rfl) rfl rfl cl_M na_own_ranks (by decide +kernel) (by decide) rfl
      (xs_fld (w := true) 0 [.io (eM C (m_init1 g b)), .fz (eTup eN g), .fz (eTup (eTup eN) b), .fz (eLst eN (m_checked_ranks g b))] (ev_subN (i := 1 <<< g.length) (j := 1) (ev_shlN (i := 1) (j := g.length) (ev_natC (n := 1)) (ev_as (ev_len (by rfl) m_len (ea_1 (ev_var (i := 1) rfl rfl)) rfl) (by rw [List.length_map])) (Nat.le_trans ho.2.2.2.2 (by decide)) (by decide)) (ev_natC (n := 1)) (one_le_shl _)) rfl rfl cl_M na_own_full (by decide +kernel) (by decide) rfl
      (xs_nil ⟨rfl, ParOk.io1 rfl⟩))))))))))) (fun hc => Bool.noConfusion (show true = false from hc))))
/-- the class can be made -/
def FInitM (P : Program) (w : World) (K : PySem.W.Frag) (mg : Str → Option Value) (base : Heap) (C : Addr) (k : Nat) : Prop :=
  ∃ j f fd, j + 1 ≤ k ∧ FInit P w K mg base "Matroid" C psInit j (S_init C) f fd ∧ (∃ us, Vals [V.non] us ∧ Binds K fd psInit us) ∧ ∃ g, KBn K fd psInit 3 [("known_ranks" : Str)] g (fun vs zs => vs ++ zs)
section
variable {X : Cx} {a b c : Expr} {ρ ρ1 ρ2 ρ3 : VE} {pos p kp : Pos} {k : Nat} {C : Addr} {g : List Nat} {bs : List (List Nat)} {q : List Nat}
theorem mk_1 (F : FInitM X.prog X.w X.K X.mg X.base C k) (hr : Room k X.A) (hg : Gl X "Matroid") (ha : EvD X a ρ (.fz (eTup eN g)) ρ1) (hb : EvD X b ρ1 (.fz (eTup (eTup eN) bs)) ρ2) (ho : ok_init1 g bs)
    (h1 : starEach [a, b] X.env = (false, eval a X.env) :: starEach [b] X.env := by first | exact star_cons rfl | rfl) (h2 : starEach [b] X.env = (false, eval b X.env) :: starEach [] X.env := by first | exact star_cons rfl | rfl) (hpl : (backTo pos (starEach [b] X.env)).any (·.1) = false := by first | exact plain_star rfl | rfl) :
    EvD X (.Call (.Name "Matroid" p) [a, b] [] pos) ρ (.ow (eM C (m_init1 g bs))) ρ2 := by
  obtain ⟨j, f, fd, hj, F, ⟨us, hd, hb2⟩, _⟩ := F
  exact ev_make (dds := [.non]) F hb2 hd (fun B => ⟨_, _, rfl, rfl, rfl⟩) (hr.mono hj) hg (ea_cons ha (ea_cons hb ea_nil h2) h1) ⟨rfl, .inr ⟨g, bs, ho, rfl, rfl⟩⟩ (by decide) h1 hpl
theorem mk_2 (F : FInitM X.prog X.w X.K X.mg X.base C k) (hr : Room k X.A) (hg : Gl X "Matroid") (ha : EvD X a ρ (.fz (eTup eN g)) ρ1) (hb : EvD X b ρ1 (.fz (eTup (eTup eN) bs)) ρ2) (hc : EvD X c ρ2 (.fz (eLst eN q)) ρ3) (ho : g.length ≤ 10)
    (h1 : starEach [a, b] X.env = (false, eval a X.env) :: starEach [b] X.env := by first | exact star_cons rfl | rfl) (h2 : starEach [b] X.env = (false, eval b X.env) :: starEach [] X.env := by first | exact star_cons rfl | rfl)
    (hall : (backToKw pos (keywordEach [⟨some "known_ranks", c, kp⟩] X.env)).all (·.1.isSome) = true := by rfl) (hks : (backToKw pos (keywordEach [⟨some "known_ranks", c, kp⟩] X.env)).filterMap (·.1) = [("known_ranks" : Str)] := by rfl)
    (hpl : ((backTo pos (starEach [a, b] X.env)).any (·.1) || (backToKw pos (keywordEach [⟨some "known_ranks", c, kp⟩] X.env)).any (·.1.isNone)) = false := by rfl) :
    EvD X (.Call (.Name "Matroid" p) [a, b] [⟨some "known_ranks", c, kp⟩] pos) ρ (.ow (eM C (m_init2 g bs q))) ρ3 := by
  obtain ⟨j, f, fd, hj, F, _, gg, hk⟩ := F
  exact ev_makeK (n := 2) (ks := [("known_ranks" : Str)]) (zs := [eLst eN q]) (gs := [eTup eN g, eTup (eTup eN) bs, eLst eN q]) F hk (hr.mono hj) hg (ea_cons ha (ea_cons hb ea_nil h2) h1) (ek_cons hc ek_nil) rfl rfl (fun B xa vs ws r1 r2 => ⟨vs ++ ws, rfl, r1.append r2⟩) ⟨rfl, .inl ⟨g, bs, q, ho, rfl, rfl⟩⟩ hall hks (by decide) h1 hpl
end
end
end K66

namespace K66
open PySem PySem.Spec PyProof.Rows L2 DL
section
variable {P : Program} {w : World} {K : PySem.W.Frag} {mg : Str → Option Value} {base : Heap} {f : Addr} {fd : FuncData}
/-! ### matroid_by_ranks -/
abbrev s_matroid_by_ranks : Stmt := top 45
abbrev N_matroid_by_ranks : List Str := ["ground", "ranks"]
theorem sc_matroid_by_ranks : FnScope N_matroid_by_ranks ["ground", "ranks"] (defScope s_matroid_by_ranks) := ⟨rfl, rfl, rfl, by decide +kernel, rfl, by decide +kernel, by decide +kernel⟩
def m_matroid_by_ranks (ground_ : (List Nat)) (ranks_ : (List Nat)) : Mat := (m_init2 ground_ (m_bases_by_ranks ground_ ranks_) ranks_)
def ok_matroid_by_ranks (ground_ : (List Nat)) (ranks_ : (List Nat)) : Prop := (ok_bases_by_ranks ground_ ranks_) ∧ (ground_.length ≤ 10)
def R_matroid_by_ranks (C : Addr) (ds : List D) (r : Var) : Prop := ∃ (ground_ : (List Nat)) (ranks_ : (List Nat)), ok_matroid_by_ranks ground_ ranks_ ∧ ds = [(eTup eN) ground_, (eLst eN) ranks_] ∧ r = (fun v => Var.ow ((eM C) v)) (m_matroid_by_ranks ground_ ranks_)
theorem c_matroid_by_ranks {C : Addr} {k : Nat} (F : FunD K "matroid_by_ranks" "matroid_by_ranks" (defArgs s_matroid_by_ranks) (defBody s_matroid_by_ranks) (defScope s_matroid_by_ranks) [] [] f fd) (hm : mg "matroid_by_ranks" = some (.ref f)) (F_init : FInitM P w K mg base C k) (F_bases_by_ranks : Fc P w K mg base "bases_by_ranks" ["ground", "ranks"] k (FP (R_bases_by_ranks))) :
    Fc P w K mg base "matroid_by_ranks" ["ground", "ranks"] (k + 1) (FP (R_matroid_by_ranks C)) := by
  have Sc := sc_matroid_by_ranks
  refine fc_of F hm Sc (by decide) (fun _ _ _ _ _ _ us hl => match us, hl with | [_, _], _ => rfl) (FP.par (n := 2) fun ds r h => by obtain ⟨_, _, _, rfl, _⟩ := h; rfl) fun cdv A outer s H E hr as r as' hS => ?_
  obtain ⟨ds, e1, e2, h⟩ := hS
  have pk : ∀ ρ, ParOk as as' ρ := fun ρ => FP.ok e1 e2
  subst e1
  have hu := hr.units
  show XS _ _ _ (kF r (ParOk _ as'))
  generalize ParOk _ as' = PK at pk ⊢
  obtain ⟨ground_, ranks_, ho, e3, e4⟩ := h
  subst e3 e4
  show XS _ _ [.fz ((eTup eN) ground_), .fz ((eLst eN) ranks_)] (kF ((fun v => Var.ow ((eM C) v)) (m_matroid_by_ranks ground_ ranks_)) PK)
  exact (xs_one (x1_ret (mk_2 F_init hr (by rfl) (ev_var (i := 0) rfl rfl) (ev_call F_bases_by_ranks hr (by rfl) pass0 (ea_cons (ev_var (i := 0) rfl rfl) (ea_cons (ev_var (i := 1) rfl rfl) ea_nil)) (FP.mk ⟨ground_, ranks_, ho.1, rfl, rfl⟩)) (ev_var (i := 1) rfl rfl) ho.2) ⟨rfl, pk _⟩))
/-! ### dual -/
abbrev s_dual : Stmt := inClass (top 39) 14
abbrev N_dual : List Str := ["self", "ranks", "mask"]
theorem sc_dual : FnScope N_dual ["self"] (defScope s_dual) := ⟨rfl, rfl, rfl, by decide +kernel, rfl, by decide +kernel, by decide +kernel⟩
def st_dual_1 (self_ : Mat) (s2 : ((List Nat))) (x3 : Nat) : ((List Nat)) := (s2 ++ [(((m_ones_of x3) + (nth self_.ranks (self_.full ^^^ x3))) - (las self_.ranks))])
def sk_dual_2 (self_ : Mat) (s2 : ((List Nat))) (x3 : Nat) : Prop := (ok_ones_of x3) ∧ ((self_.full ^^^ x3) < self_.ranks.length) ∧ (0 < self_.ranks.length) ∧ ((las self_.ranks) ≤ ((m_ones_of x3) + (nth self_.ranks (self_.full ^^^ x3)))) ∧ (s2.length ≤ 1000000)
def m_dual_3 (self_ : Mat) (s4 : ((List Nat))) : Mat := (m_matroid_by_ranks self_.ground s4)
def ok_dual_4 (self_ : Mat) (s4 : ((List Nat))) : Prop := (ok_matroid_by_ranks self_.ground s4)
def m_dual_5 (self_ : Mat) (ranks_1 : (List Nat)) : Mat := (m_dual_3 self_ (List.foldl (fun s2 x3 => st_dual_1 self_ s2 x3) ranks_1 (List.range (self_.full + 1))))
def ok_dual_6 (self_ : Mat) (ranks_1 : (List Nat)) : Prop := ((self_.full + 1) < 2 ^ 62) ∧ (okF (fun s2 x3 => sk_dual_2 self_ s2 x3) (fun s2 x3 => st_dual_1 self_ s2 x3) (List.range (self_.full + 1)) ranks_1) ∧ (ok_dual_4 self_ (List.foldl (fun s2 x3 => st_dual_1 self_ s2 x3) ranks_1 (List.range (self_.full + 1))))
def m_dual (self_ : Mat) : Mat := (m_dual_5 self_ ([] : List Nat))
def ok_dual (self_ : Mat) : Prop := (ok_dual_6 self_ ([] : List Nat))
def R_dual (C : Addr) (ds : List D) (r : Var) : Prop := ∃ (self_ : Mat), ok_dual self_ ∧ ds = [(eM C) self_] ∧ r = (fun v => Var.ow ((eM C) v)) (m_dual self_)
theorem c_dual {C : Addr} {k : Nat} (F : FunD K "dual" "Matroid.dual" (defArgs s_dual) (defBody s_dual) (defScope s_dual) [] [] f fd) (hm : Meth K C "dual" f) (m_range : mg "range" = none) (cl_M : Cls K C) (na_ground : NoAttr K C "ground") (na_own_full : NoAttr K C "own_full") (na_own_ranks : NoAttr K C "own_ranks") (F_ones_of : Fc P w K mg base "ones_of" ["mask"] k (FP (R_ones_of))) (F_matroid_by_ranks : Fc P w K mg base "matroid_by_ranks" ["ground", "ranks"] k (FP (R_matroid_by_ranks C))) :
    Fm P w K mg base C "dual" ["self"] (k + 1) (FP (R_dual C)) := by
  have Sc := sc_dual
  refine ⟨f, fd, fnok_of F Sc (by decide) (FP.par (n := 1) fun ds r h => by obtain ⟨_, _, rfl, _⟩ := h; rfl) fun cdv A outer s H E hr as r as' hS => ?_, hm, cl_M, F.bindsN (fun _ _ _ _ _ _ us hl => match us, hl with | [_], _ => rfl)⟩
  obtain ⟨ds, e1, e2, h⟩ := hS
  have pk : ∀ ρ, ParOk as as' ρ := fun ρ => FP.ok e1 e2
  subst e1
  have hu := hr.units
  show XS _ _ _ (kF r (ParOk _ as'))
  generalize ParOk _ as' = PK at pk ⊢
  obtain ⟨self_, ho, e3, e4⟩ := h
  subst e3 e4
  show XS _ _ [.fz ((eM C) self_), .un, .un] (kF ((fun v => Var.ow ((eM C) v)) (m_dual self_)) PK)
  exact (xs_setG 1 (fun v => Var.ow ((eLst eN) v)) ([] : List Nat) (fun ranks_1 => ok_dual_6 self_ ranks_1) (fun ranks_1 => [.fz ((eM C) self_), .ow ((eLst eN) ranks_1), .un]) (fun ranks_1 => kF ((fun v => Var.ow ((eM C) v)) (m_dual_5 self_ ranks_1)) PK) (ev_lstT eN ([] : List Nat) ea_nil) Sc.nd rfl (by first | exact .inl rfl | exact .inr rfl) ho (fun ranks_1 hv => (xs_forPG (js := [2]) (List.range (self_.full + 1)) eN (fun s2 : ((List Nat)) => [.fz ((eM C) self_), .ow ((eLst eN) s2), .un]) (fun s2 x3 => st_dual_1 self_ s2 x3) ranks_1 (fun s2 x3 => sk_dual_2 self_ s2 x3) (fun s4 => ok_dual_4 self_ s4) (fun s4 => kF ((fun v => Var.ow ((eM C) v)) (m_dual_3 self_ s4)) PK) (ei_rangeN (by rfl) m_range (ea_1 (ev_addN (i := self_.full) (j := 1) (ev_fld (ev_var (i := 0) rfl rfl) cl_M na_own_full rfl) (ev_natC (n := 1)))) hv.1) hv.2.1 (fun s2 x3 hx ho => (xg_name 2 Sc.nd rfl (by first | exact .inl rfl | exact .inr rfl) (xs_app (i := 1) (w := false) [.fz ((eM C) self_), .ow ((eLst eN) (s2 ++ [(((m_ones_of x3) + (nth self_.ranks (self_.full ^^^ x3))) - (las self_.ranks))])), .fz (eN x3)] rfl rfl (ev_subN (i := ((m_ones_of x3) + (nth self_.ranks (self_.full ^^^ x3)))) (j := (las self_.ranks)) (ev_addN (i := (m_ones_of x3)) (j := (nth self_.ranks (self_.full ^^^ x3))) (ev_call F_ones_of hr (by rfl) pass0 (ea_cons (ev_var (i := 2) rfl rfl) ea_nil) (FP.mk ⟨x3, ho.1, rfl, rfl⟩)) (ev_ixLN (enc := eN) (l := self_.ranks) (i := (self_.full ^^^ x3)) (ev_fld (ev_var (i := 0) rfl rfl) cl_M na_own_ranks rfl) (ev_xorN (i := self_.full) (j := x3) (ev_fld (ev_var (i := 0) rfl rfl) cl_M na_own_full rfl) (ev_var (i := 2) rfl rfl)) ho.2.1)) (ev_ixLl (enc := eN) (l := self_.ranks) (ev_fld (ev_var (i := 0) rfl rfl) cl_M na_own_ranks rfl) ev_m1 ho.2.2.1) ho.2.2.2.1) rfl ho.2.2.2.2 (xs_un 2 (xs_nil rfl))))) hv.2.2 (fun s4 hv => (xs_frz 1 rfl (xs_one (x1_ret (ev_call F_matroid_by_ranks hr (by rfl) pass0 (ea_cons (ev_fld (ev_var (i := 0) rfl rfl) cl_M na_ground rfl) (ea_cons (ev_var (i := 1) rfl rfl) ea_nil)) (FP.mk ⟨self_.ground, s4, hv, rfl, rfl⟩)) ⟨rfl, pk _⟩)))))))
end
end K66

/-! LP: the package: sets, ranks, the matroid made, duals. -/
namespace K66
open PySem PySem.Spec PyProof.Rows L2 DL PL
def stF (g : List Nat) (m : Nat) : List Nat := (mem g.length m).map (nth g)
theorem set_from_eq {g : List Nat} {m : Nat} : m_set_from g m = stF g m := by
  unfold m_set_from stF mem
  rw [enm_eq, List.filter_map, List.map_map]
  have : ((fun x1 : Nat × Nat => decide ((m >>> x1.1) &&& 1 = 1)) ∘ fun i => (i, nth g i)) = fun i => m.testBit i := by
    funext i; exact bit_and m i
  rw [this]; rfl
theorem t_set_from {g : List Nat} {m : Nat} (hg : g.length ≤ 10) : ok_set_from g m := by
  show (enm g).length ≤ 1000000
  rw [enm_len]; omega
/-! ### ranks of all masks -/
/-- the greatest of some -/
theorem maxT_spec : ∀ (l : List Nat) (x : Nat), DL.maxT ltN x l ∈ x :: l ∧ ∀ y, y ∈ x :: l → y ≤ DL.maxT ltN x l
  | [], x => ⟨List.mem_singleton.mpr rfl, fun y h => by rw [List.mem_singleton.mp h]; exact Nat.le_refl _⟩
  | z :: l, x => by
    have e : DL.maxT ltN x (z :: l) = DL.maxT ltN (if ltN x z then z else x) l := rfl
    rw [e]
    obtain ⟨h1, h2⟩ := maxT_spec l (if ltN x z then z else x)
    by_cases q : x < z
    · rw [if_pos (decide_eq_true q)] at h1 h2 ⊢
      refine ⟨List.mem_cons_of_mem _ h1, fun y hy => ?_⟩
      rcases List.mem_cons.mp hy with hy | hy
      · subst hy; exact Nat.le_trans (Nat.le_of_lt q) (h2 z List.mem_cons_self)
      · exact h2 y hy
    · rw [if_neg (by rw [decide_eq_true_eq]; exact q)] at h1 h2 ⊢
      refine ⟨?_, fun y hy => ?_⟩
      · rcases List.mem_cons.mp h1 with h | h
        · rw [h]; exact List.mem_cons_self
        · exact List.mem_cons_of_mem _ (List.mem_cons_of_mem _ h)
      · rcases List.mem_cons.mp hy with hy | hy
        · subst hy; exact h2 y List.mem_cons_self
        · rcases List.mem_cons.mp hy with hy | hy
          · subst hy; exact Nat.le_trans (Nat.le_of_not_lt q) (h2 x List.mem_cons_self)
          · exact h2 y (List.mem_cons_of_mem _ hy)
theorem maxL_spec {l : List Nat} (h : l ≠ []) : maxL ltN l ∈ l ∧ ∀ y, y ∈ l → y ≤ maxL ltN l := by
  cases l with
  | nil => exact absurd rfl h
  | cons x l => exact maxT_spec l x
theorem minT_spec : ∀ (l : List Nat) (x : Nat), DL.minT ltN x l ∈ x :: l ∧ ∀ y, y ∈ x :: l → DL.minT ltN x l ≤ y
  | [], x => ⟨List.mem_singleton.mpr rfl, fun y h => by rw [List.mem_singleton.mp h]; exact Nat.le_refl _⟩
  | z :: l, x => by
    have e : DL.minT ltN x (z :: l) = DL.minT ltN (if ltN z x then z else x) l := rfl
    rw [e]
    obtain ⟨h1, h2⟩ := minT_spec l (if ltN z x then z else x)
    by_cases q : z < x
    · rw [if_pos (decide_eq_true q)] at h1 h2 ⊢
      refine ⟨List.mem_cons_of_mem _ h1, fun y hy => ?_⟩
      rcases List.mem_cons.mp hy with hy | hy
      · subst hy; exact Nat.le_trans (h2 z List.mem_cons_self) (Nat.le_of_lt q)
      · exact h2 y hy
    · rw [if_neg (by rw [decide_eq_true_eq]; exact q)] at h1 h2 ⊢
      refine ⟨?_, fun y hy => ?_⟩
      · rcases List.mem_cons.mp h1 with h | h
        · rw [h]; exact List.mem_cons_self
        · exact List.mem_cons_of_mem _ (List.mem_cons_of_mem _ h)
      · rcases List.mem_cons.mp hy with hy | hy
        · subst hy; exact h2 y List.mem_cons_self
        · rcases List.mem_cons.mp hy with hy | hy
          · subst hy; exact Nat.le_trans (h2 x List.mem_cons_self) (Nat.le_of_not_lt q)
          · exact h2 y (List.mem_cons_of_mem _ hy)
theorem minL_spec {l : List Nat} (h : l ≠ []) : minL ltN l ∈ l ∧ ∀ y, y ∈ l → minL ltN l ≤ y := by
  cases l with
  | nil => exact absurd rfl h
  | cons x l => exact minT_spec l x
/-- a list of ranks told by what is free -/
structure RkL (n : Nat) (F : Nat → Prop) (k : Nat) (s : List Nat) : Prop where
  len : s.length = k
  yes : ∀ m, m < k → F m → nth s m = card n m
  no : ∀ m, m < k → ¬ F m → (∃ i, m.testBit i = true ∧ nth s m = nth s (m ^^^ 2 ^ i)) ∧ ∀ i, m.testBit i = true → nth s (m ^^^ 2 ^ i) ≤ nth s m
theorem RkL.snoc {n : Nat} {F : Nat → Prop} {k : Nat} {s : List Nat} (h : RkL n F k s) (x : Nat) (hy : F k → x = card n k) (hn : ¬ F k → (∃ i, k.testBit i = true ∧ x = nth s (k ^^^ 2 ^ i)) ∧ ∀ i, k.testBit i = true → nth s (k ^^^ 2 ^ i) ≤ x) : RkL n F (k + 1) (s ++ [x]) := by
  have old : ∀ m, m < k → nth (s ++ [x]) m = nth s m := fun m hm => nth_append_l (by rw [h.len]; exact hm)
  have new : nth (s ++ [x]) k = x := by
    have := nth_append_n (l := s) (x := x)
    rwa [h.len] at this
  refine ⟨by rw [List.length_append, h.len]; rfl, fun m hm f => ?_, fun m hm f => ?_⟩
  · rcases Nat.lt_or_eq_of_le (Nat.le_of_lt_succ hm) with z | z
    · rw [old m z]; exact h.yes m z f
    · subst z; rw [new]; exact hy f
  · rcases Nat.lt_or_eq_of_le (Nat.le_of_lt_succ hm) with z | z
    · obtain ⟨⟨i, h1, h2⟩, h3⟩ := h.no m z f
      rw [old m z]
      exact ⟨⟨i, h1, by rw [old _ (Nat.lt_trans (del_lt h1) z)]; exact h2⟩, fun j hj => by rw [old _ (Nat.lt_trans (del_lt hj) z)]; exact h3 j hj⟩
    · subst z
      obtain ⟨⟨i, h1, h2⟩, h3⟩ := hn f
      rw [new]
      exact ⟨⟨i, h1, by rw [old _ (del_lt h1)]; exact h2⟩, fun j hj => by rw [old _ (del_lt hj)]; exact h3 j hj⟩
theorem RkL.isR {n : Nat} {F : Nat → Prop} {s : List Nat} (h : RkL n F (2 ^ n) s) : IsR n F (nth s) := ⟨h.yes, fun m hm f => (h.no m hm f).1, fun m i hm f hi => (h.no m hm f).2 i hi⟩
/-- two lists of ranks of the same free sets are one -/
theorem RkL.uniq {n : Nat} {F : Nat → Prop} {s t : List Nat} {k : Nat} (h : RkL n F k s) (g : RkL n F k t) : s = t := by
  refine ext_nth (h.len.trans g.len.symm) ?_
  rw [h.len]
  intro i
  induction i using Nat.strongRecOn with
  | _ m ih =>
    intro hm
    by_cases f : F m
    · rw [h.yes m hm f, g.yes m hm f]
    · obtain ⟨⟨i, h1, h2⟩, h3⟩ := h.no m hm f
      obtain ⟨⟨j, g1, g2⟩, g3⟩ := g.no m hm f
      have a := g3 i h1
      rw [← ih _ (del_lt h1) (Nat.lt_trans (del_lt h1) hm), ← h2] at a
      have b := h3 j g1
      rw [ih _ (del_lt g1) (Nat.lt_trans (del_lt g1) hm), ← g2] at b
      omega
/-- the greatest rank of what is left without one -/
theorem max_del {n m : Nat} {s : List Nat} (hm : m < 2 ^ n) (h0 : m ≠ 0) (f : Nat → Nat) (hf : ∀ k, k ∈ mem n m → f k = nth s (m ^^^ 2 ^ k)) : (mem n m).map f ≠ [] ∧ ((∃ i, m.testBit i = true ∧ maxL ltN ((mem n m).map f) = nth s (m ^^^ 2 ^ i)) ∧ ∀ i, m.testBit i = true → nth s (m ^^^ 2 ^ i) ≤ maxL ltN ((mem n m).map f)) := by
  have hne : (mem n m).map f ≠ [] := fun q => mem_ne hm h0 (List.map_eq_nil_iff.mp q)
  obtain ⟨h1, h2⟩ := maxL_spec hne
  refine ⟨hne, ?_, fun i hi => ?_⟩
  · obtain ⟨i, hi, e⟩ := List.mem_map.mp h1
    exact ⟨i, (mem_iff.mp hi).2, by rw [← e, hf i hi]⟩
  · have hi2 : i ∈ mem n m := mem_iff.mpr ⟨sub_lt hm hi, hi⟩
    rw [← hf i hi2]
    exact h2 _ (List.mem_map.mpr ⟨i, hi2, rfl⟩)
theorem mem_zero (n : Nat) : mem n 0 = [] := by
  unfold mem; rw [List.filter_eq_nil_iff]; intro i _; simp
structure Good (n : Nat) (s : List Nat) : Prop where
  ex : ∃ F, Ind n F ∧ RkL n F (2 ^ n) s
structure Gnd (g : List Nat) : Prop where
  asc : g.Pairwise (· < ·)
  le : ∀ x, x ∈ g → x ≤ 199
  len : g.length ≤ 10
theorem mem_asc (n m : Nat) : (mem n m).Pairwise (· < ·) := by
  unfold mem
  exact List.Pairwise.filter _ List.pairwise_lt_range
theorem Gnd.lt {g : List Nat} (h : Gnd g) {i j : Nat} (hij : i < j) (hj : j < g.length) : nth g i < nth g j := pw_nth h.asc hij hj
theorem Gnd.inj {g : List Nat} (h : Gnd g) {i j : Nat} (hi : i < g.length) (hj : j < g.length) (e : nth g i = nth g j) : i = j := by
  rcases Nat.lt_trichotomy i j with q | q | q
  · have := h.lt q hj; omega
  · exact q
  · have := h.lt q hi; omega
theorem st_asc {g : List Nat} (h : Gnd g) (m : Nat) : (stF g m).Pairwise (· < ·) := by
  unfold stF
  rw [List.pairwise_map]
  refine (mem_asc _ _).imp_of_mem fun {a b} ha hb q => h.lt q (mem_lt hb)
theorem st_mem {g : List Nat} {m x : Nat} : x ∈ stF g m ↔ ∃ i, i < g.length ∧ m.testBit i = true ∧ nth g i = x := by
  unfold stF
  rw [List.mem_map]
  constructor
  · rintro ⟨i, hi, e⟩; rw [mem_iff] at hi; exact ⟨i, hi.1, hi.2, e⟩
  · rintro ⟨i, h1, h2, e⟩; exact ⟨i, mem_iff.mpr ⟨h1, h2⟩, e⟩
theorem st_len {g : List Nat} {m : Nat} : (stF g m).length = card g.length m := by unfold stF; rw [List.length_map, mem_card]
theorem st_sub {g : List Nat} {m x : Nat} (h : x ∈ stF g m) : x ∈ g := by
  obtain ⟨i, h1, _, e⟩ := st_mem.mp h
  rw [← e]; exact nth_mem h1
/-! ### tests of sets -/
theorem all_id {α : Type} {l : List α} {f : α → Bool} (h : ∀ x, x ∈ l → f x = true) : (l.map f).all id = true := by
  rw [List.all_map, List.all_eq_true]; exact h
theorem pre_len {α : Type} {l : List α} (h : l.length ≤ 1000000) : (-(2 ^ 62) ≤ ((l.length : Int) - (1 : Int)) ∧ ((l.length : Int) - (1 : Int)) < 2 ^ 62) ∧ ((List.range ((l.length : Int) - (1 : Int)).toNat).length ≤ 1000000) ∧ (∀ x2 ∈ List.range ((l.length : Int) - (1 : Int)).toNat, (x2 < l.length) ∧ ((x2 + 1) < l.length)) := by
  refine ⟨⟨by omega, by omega⟩, by rw [List.length_range]; omega, fun x hx => ?_⟩
  rw [List.mem_range] at hx
  omega
theorem set_ok {l : List Nat} (h : l.length ≤ 1000000) : ok_is_set_of_elements l := ⟨fun _ => ⟨h, fun _ _ => trivial⟩, fun _ => pre_len h⟩
theorem set_is {l : List Nat} (h1 : l.Pairwise (· < ·)) (h2 : ∀ x, x ∈ l → x ≤ 199) : m_is_set_of_elements l = true := by
  unfold m_is_set_of_elements
  rw [all_id fun x hx => by
    unfold m_is_whole_in
    simp [h2 x hx]]
  refine all_id fun x hx => ?_
  rw [List.mem_range] at hx
  rw [decide_eq_true_eq]
  exact pw_nth h1 (Nat.lt_succ_self x) (by omega)
theorem Gnd.ground {g : List Nat} (h : Gnd g) : ok_need_ground g := by
  have := h.len
  refine ⟨set_ok (by omega), ?_⟩
  unfold m_is_ground
  rw [set_is h.asc h.le, decide_eq_true h.len]; rfl
theorem within {g : List Nat} (h : Gnd g) (m : Nat) : ok_is_set_within g (stF g m) ∧ m_is_set_within g (stF g m) = true := by
  have l : (stF g m).length ≤ 1000000 := by rw [st_len]; exact Nat.le_trans (card_le_n _ _) (by have := h.len; omega)
  refine ⟨⟨set_ok l, fun _ => l⟩, ?_⟩
  unfold m_is_set_within
  rw [set_is (st_asc h m) fun x hx => h.le x (st_sub hx), all_id fun x hx => decide_eq_true (st_sub hx)]; rfl
theorem sets_within {g : List Nat} (h : Gnd g) {l : List (List Nat)} (h1 : ∀ x, x ∈ l → ∃ m, x = stF g m) (h2 : l.Pairwise fun a b => lexL ltN a b = true) (h3 : l.length ≤ 1000000) : ok_are_sets_within g l ∧ m_are_sets_within g l = true := by
  refine ⟨⟨fun _ => ⟨h3, fun x hx => ?_⟩, fun _ => pre_len h3⟩, ?_⟩
  · obtain ⟨m, e⟩ := h1 x hx
    rw [e]; exact (within h m).1
  · unfold m_are_sets_within
    rw [all_id fun x hx => by
      obtain ⟨m, e⟩ := h1 x hx
      rw [e]; exact (within h m).2]
    refine all_id fun x hx => ?_
    rw [List.mem_range] at hx
    exact pw_nth h2 (Nat.lt_succ_self x) (by omega)
/-! ### masks -/
theorem t_mask_from {g l : List Nat} (h : g.length ≤ 10) : ok_mask_from g l := ⟨by rw [enm_len]; omega, fun x hx _ => by rw [enm_mem] at hx; omega⟩
theorem mask_from_eq {g : List Nat} (h : Gnd g) {m : Nat} (hm : m < 2 ^ g.length) : m_mask_from g (stF g m) = m := by
  unfold m_mask_from
  rw [enm_eq, List.filter_map, List.map_map]
  have e1 : ((fun x1 : Nat × Nat => 1 <<< x1.1) ∘ fun i => (i, nth g i)) = fun i => 2 ^ i := by funext i; exact shl_one i
  rw [e1]
  have e2 : (List.range g.length).filter ((fun x1 : Nat × Nat => decide (x1.2 ∈ stF g m)) ∘ fun i => (i, nth g i)) = mem g.length m := by
    unfold mem
    refine List.filter_congr fun i hi => ?_
    rw [List.mem_range] at hi
    show decide (nth g i ∈ stF g m) = m.testBit i
    cases q : m.testBit i with
    | true => exact decide_eq_true (st_mem.mpr ⟨i, hi, q, rfl⟩)
    | false =>
      refine decide_eq_false fun z => ?_
      obtain ⟨j, h1, h2, h3⟩ := st_mem.mp z
      rw [h.inj h1 hi h3, q] at h2
      cases h2
  rw [e2]
  exact bits_sum _ _ hm
theorem st_inj {g : List Nat} (h : Gnd g) {a b : Nat} (ha : a < 2 ^ g.length) (hb : b < 2 ^ g.length) (e : stF g a = stF g b) : a = b := by
  rw [← mask_from_eq h ha, ← mask_from_eq h hb, e]
theorem digits_eq {m n : Nat} : m_digits_in m n = (mem n m).map (2 ^ ·) := by
  unfold m_digits_in mem
  rw [show (fun x1 => decide (((m >>> x1) &&& 1) = 1)) = (m.testBit ·) by funext i; exact bit_and m i, show (fun x1 => 1 <<< x1) = (2 ^ ·) by funext i; exact shl_one i]
theorem t_digits {m n : Nat} (h : n ≤ 10) : ok_digits_in m n := ⟨by omega, by rw [List.length_range]; omega, fun x hx _ => by rw [List.mem_range] at hx; omega⟩
theorem digits_len {m n : Nat} (h : n ≤ 10) : (m_digits_in m n).length ≤ 10 := by
  rw [digits_eq, List.length_map, mem_card]; exact Nat.le_trans (card_le_n _ _) h
theorem set_all (G : Nat → Nat) : ∀ (l : List Nat) (st : List Bool), (∀ d, d ∈ l → G d < st.length) → okF (fun s d => G d < s.length) (fun s d => s.set (G d) true) l st ∧ (l.foldl (fun s d => s.set (G d) true) st).length = st.length ∧ ∀ m, nth (l.foldl (fun s d => s.set (G d) true) st) m = true ↔ nth st m = true ∨ ∃ d, d ∈ l ∧ G d = m
  | [], st, _ => ⟨trivial, rfl, fun m => ⟨.inl, fun h => h.elim id fun ⟨_, h, _⟩ => by cases h⟩⟩
  | d :: l, st, h => by
    have hd := h d List.mem_cons_self
    obtain ⟨h1, h2, h3⟩ := set_all G l (st.set (G d) true) fun e he => by rw [List.length_set]; exact h e (List.mem_cons_of_mem _ he)
    refine ⟨⟨hd, h1⟩, by rw [List.foldl_cons, h2, List.length_set], fun m => ?_⟩
    rw [List.foldl_cons, h3, nth_set hd]
    constructor
    · rintro (q | ⟨e, he, q⟩)
      · by_cases z : m = G d
        · exact .inr ⟨d, List.mem_cons_self, z.symm⟩
        · rw [if_neg z] at q; exact .inl q
      · exact .inr ⟨e, List.mem_cons_of_mem _ he, q⟩
    · rintro (q | ⟨e, he, q⟩)
      · by_cases z : m = G d
        · rw [if_pos z]; exact .inl rfl
        · rw [if_neg z]; exact .inl q
      · rcases List.mem_cons.mp he with he | he
        · subst he; rw [if_pos q.symm]; exact .inl rfl
        · exact .inr ⟨e, he, q⟩
/-- the masks of the bases -/
def IsB (n : Nat) (s : List Nat) (m : Nat) : Prop := m < 2 ^ n ∧ nth s m = las s ∧ card n m = las s
theorem masks_ranks {n : Nat} (hn : n ≤ 10) {s : List Nat} (hs : Good n s) {masks : List Nat} (hm : ∀ m, m ∈ masks ↔ IsB n s m) (hl : masks.length ≤ 1000000) : ok_ranks_by_masks n masks ∧ m_ranks_by_masks n masks = s := by
  obtain ⟨F, I, hR⟩ := hs.ex
  have IR := hR.isR
  have t10 := two10 hn
  have hp := Nat.two_pow_pos n
  have lasE : las s = nth s (2 ^ n - 1) := las_eq hR.len
  have e1 : 1 <<< n = 2 ^ n := shl_one n
  -- the bases are free
  have bF : ∀ m, m ∈ masks → F m := fun m h => by
    obtain ⟨b1, b2, b3⟩ := (hm m).mp h
    exact (IR.iff I b1).mpr (by rw [b2, b3])
  -- first loop
  obtain ⟨a1, a2, a3⟩ := set_all (fun x => x) masks (List.replicate (2 ^ n) false) fun d hd => by rw [List.length_replicate]; exact ((hm d).mp hd).1
  rw [List.length_replicate] at a2
  have a3 : ∀ m, nth (masks.foldl (fun s d => s.set d true) (List.replicate (2 ^ n) false)) m = true ↔ m ∈ masks := fun m => by
    rw [a3]
    constructor
    · rintro (q | ⟨d, hd, e⟩)
      · exfalso
        by_cases z : m < 2 ^ n
        · rw [nth_repl z] at q; cases q
        · rw [nth_ge (by rw [List.length_replicate]; omega)] at q; cases q
      · subst e; exact hd
    · exact fun h => .inr ⟨m, h, rfl⟩
  generalize e4 : masks.foldl (fun s d => s.set d true) (List.replicate (2 ^ n) false) = s4 at a2 a3
  -- second loop
  have h2 := fold_inv0 (ok := sk_ranks_by_masks_7 n) (f := st_ranks_by_masks_6 n) (fun i st => st.length = 2 ^ n ∧ (∀ m, m < 2 ^ n → nth st m = true → F m) ∧ (∀ m, m ∈ masks → nth st m = true) ∧ ∀ p, p < 2 ^ n → 2 ^ n ≤ p + i → nth st p = true → ∀ j, p.testBit j = true → nth st (p ^^^ 2 ^ j) = true) (dnN (2 ^ n)) s4
    ⟨a2, fun m _ q => bF m ((a3 m).mp q), fun m q => (a3 m).mpr q, fun p h1 h2 => by omega⟩ fun i x st hx ⟨q1, q2, q3, q4⟩ => by
      obtain ⟨ex, hi⟩ := dnN_get hx
      have hx2 : x < 2 ^ n := by omega
      have din : ∀ d, d ∈ m_digits_in x n → x ^^^ d < st.length := fun d hd => by
        rw [digits_eq] at hd
        obtain ⟨k, hk, e⟩ := List.mem_map.mp hd
        subst e
        rw [q1]
        exact Nat.lt_trans (del_lt (mem_iff.mp hk).2) hx2
      obtain ⟨b1, b2, b3⟩ := set_all (fun d => x ^^^ d) (m_digits_in x n) st din
      refine ⟨⟨by rw [q1]; exact hx2, fun _ => ⟨t_digits hn, b1⟩⟩, ?_⟩
      show (if nth st x = true then (m_digits_in x n).foldl (fun s d => s.set (x ^^^ d) true) st else st).length = _ ∧ _
      have e6 : st_ranks_by_masks_6 n st x = if nth st x = true then (m_digits_in x n).foldl (fun s d => s.set (x ^^^ d) true) st else st := rfl
      rw [e6]
      by_cases c : nth st x = true
      · rw [if_pos c]
        have b3 : ∀ m, nth ((m_digits_in x n).foldl (fun s d => s.set (x ^^^ d) true) st) m = true ↔ nth st m = true ∨ ∃ k, x.testBit k = true ∧ x ^^^ 2 ^ k = m := fun m => by
          rw [b3 m]
          constructor
          · rintro (q | ⟨d, hd, e⟩)
            · exact .inl q
            · rw [digits_eq] at hd
              obtain ⟨k, hk, e2⟩ := List.mem_map.mp hd
              exact .inr ⟨k, (mem_iff.mp hk).2, by rw [← e, ← e2]⟩
          · rintro (q | ⟨k, hk, e⟩)
            · exact .inl q
            · exact .inr ⟨2 ^ k, by rw [digits_eq]; exact List.mem_map.mpr ⟨k, mem_iff.mpr ⟨sub_lt hx2 hk, hk⟩, rfl⟩, e⟩
        refine ⟨by rw [b2, q1], fun m hm2 q => ?_, fun m hm2 => (b3 m).mpr (.inl (q3 m hm2)), fun p h1 h2 q j hj => ?_⟩
        · rcases (b3 m).mp q with q | ⟨k, hk, e⟩
          · exact q2 m hm2 q
          · subst e
            exact I.her _ _ hx2 (del_sub hk) (q2 x hx2 c)
        · rcases (b3 p).mp q with q | ⟨k, hk, e⟩
          · by_cases z : p = x
            · subst z; exact (b3 _).mpr (.inr ⟨j, hj, rfl⟩)
            · exact (b3 _).mpr (.inl (q4 p h1 (by omega) q j hj))
          · have := del_lt hk
            omega
      · rw [if_neg c]
        refine ⟨q1, q2, q3, fun p h1 h2 q j hj => ?_⟩
        by_cases z : p = x
        · subst z; exact absurd q c
        · exact q4 p h1 (by omega) q j hj
  rw [dnN_len] at h2
  obtain ⟨o2, r1, r2, r3, r4⟩ := h2
  generalize e5 : (dnN (2 ^ n)).foldl (fun s5 x6 => st_ranks_by_masks_6 n s5 x6) s4 = s7 at r1 r2 r3 r4
  have down : ∀ (k t m : Nat), t < 2 ^ n → Sub m t → nth s7 t = true → card n t = card n m + k → nth s7 m = true := by
    intro k
    induction k with
    | zero =>
      intro t m ht hs2 q e
      by_cases z : m = t
      · rw [z]; exact q
      · obtain ⟨i, hb, hs3⟩ := ne_ex hs2 z
        have := card_mono (n := n) (sub_del hs2 hs3 hb)
        have := card_del (sub_lt ht hb) hb
        omega
    | succ k ih =>
      intro t m ht hs2 q e
      have z : m ≠ t := fun z => by subst z; omega
      obtain ⟨i, hb, hs3⟩ := ne_ex hs2 z
      have c1 := card_del (sub_lt ht hb) hb
      exact ih (t ^^^ 2 ^ i) m (Nat.lt_trans (del_lt hb) ht) (sub_del hs2 hs3 hb) (r4 t ht (by omega) q i hb) (by omega)
  have free : ∀ m, m < 2 ^ n → (nth s7 m = true ↔ F m) := fun m hm2 => ⟨r2 m hm2, fun f => by
    have hfull : 2 ^ n - 1 < 2 ^ n := by omega
    have le := (IR.max I (2 ^ n - 1) hfull).2 m (full_sub hm2) f
    obtain ⟨t, t1, t2, t3, t4⟩ := IR.ext I (nth s (2 ^ n - 1) - card n m) m (2 ^ n - 1) hfull (full_sub hm2) f (by omega)
    have tl := lt_of_sub t2 hfull
    have tb : t ∈ masks := (hm t).mpr ⟨tl, by rw [lasE, ← t4]; exact IR.yes t tl t3, by rw [lasE]; exact t4⟩
    exact down (card n t - card n m) t m tl t1 (r3 t tb) (by have := card_mono (n := n) t1; omega)⟩
  -- third loop
  have h3 := fold_inv0 (ok := sk_ranks_by_masks_9 n s7) (f := st_ranks_by_masks_8 n s7) (fun i st => RkL n F i st) (List.range (2 ^ n)) []
    ⟨rfl, fun m h => by omega, fun m h => by omega⟩ fun i x st hx q => by
      obtain ⟨ex, hi⟩ := rg_get hx
      subst ex
      have hl2 := q.len
      have em : (m_digits_in x n).map (fun x15 => nth st (x ^^^ x15)) = (mem n x).map fun k => nth st (x ^^^ 2 ^ k) := by rw [digits_eq, List.map_map]; rfl
      have e8 : st_ranks_by_masks_8 n s7 st x = if nth s7 x = true then st ++ [pop x] else st ++ [maxL ltN ((m_digits_in x n).map fun x15 => nth st (x ^^^ x15))] := rfl
      have pc := pop_card n x hi
      by_cases c : F x
      · have c2 := (free x hi).mpr c
        refine ⟨⟨by rw [r1]; exact hi, fun _ => ⟨?_, by omega⟩, fun z => by rw [c2] at z; cases z⟩, ?_⟩
        · show x < 16777216; omega
        · rw [e8, if_pos c2]
          exact q.snoc _ (fun _ => pc) fun z => absurd c z
      · have c2 : ¬ nth s7 x = true := fun z => c ((free x hi).mp z)
        have x0 : x ≠ 0 := fun z => c (z ▸ I.zero)
        obtain ⟨d1, d2⟩ := max_del (s := st) hi x0 (fun k => nth st (x ^^^ 2 ^ k)) fun _ _ => rfl
        refine ⟨⟨by rw [r1]; exact hi, fun z => absurd z c2, fun _ => ⟨t_digits hn, Nat.le_trans (digits_len hn) (by decide), fun d hd => ?_, by rw [em]; exact d1, by omega⟩⟩, ?_⟩
        · rw [digits_eq] at hd
          obtain ⟨k, hk, e⟩ := List.mem_map.mp hd
          subst e
          rw [hl2]
          exact del_lt (mem_iff.mp hk).2
        · rw [e8, if_neg c2, em]
          exact q.snoc _ (fun z => absurd z c) fun _ => d2
  rw [List.length_range] at h3
  refine ⟨⟨by omega, by omega, ?_⟩, ?_⟩
  · rw [e1]
    refine ⟨a1, ?_⟩
    rw [show List.foldl (fun s2 x3 => st_ranks_by_masks_1 s2 x3) (List.replicate (2 ^ n) false) masks = s4 from e4]
    refine ⟨by omega, by rw [e1]; omega, by rw [e1]; exact o2, ?_⟩
    rw [e1, e5]
    exact ⟨by omega, by rw [e1]; omega, by rw [e1]; exact h3.1⟩
  · show List.foldl (st_ranks_by_masks_8 n (List.foldl (fun s5 x6 => st_ranks_by_masks_6 n s5 x6) (List.foldl (fun s2 x3 => s2.set x3 true) (List.replicate (1 <<< n) false) masks) (dnN (1 <<< n)))) [] (List.range (1 <<< n)) = s
    rw [e1, e4, e5]
    exact h3.2.uniq hR
/-! ### no fault -/
theorem or_sum : ∀ (K : List Nat) (x : Nat), K.Nodup → (∀ k, k ∈ K → x.testBit k = false) → (K.map (2 ^ ·)).foldl (fun x d => x ||| d) x = x + (K.map (2 ^ ·)).sum
  | [], x, _, _ => rfl
  | k :: K, x, hn, h => by
    rw [List.nodup_cons] at hn
    have hk := h k List.mem_cons_self
    rw [List.map_cons, List.foldl_cons, List.sum_cons, or_sum K (x ||| 2 ^ k) hn.2 fun j hj => by
      rw [Nat.testBit_or, h j (List.mem_cons_of_mem _ hj), Nat.testBit_two_pow, decide_eq_false (show ¬ k = j from fun z => hn.1 (by rw [z]; exact hj))]; rfl]
    have := add_pow (m := x ||| 2 ^ k) (i := k) (by rw [Nat.testBit_or, Nat.testBit_two_pow]; simp)
    rw [show (x ||| 2 ^ k) ^^^ 2 ^ k = x from Nat.eq_of_testBit_eq fun j => by
      rw [Nat.testBit_xor, Nat.testBit_or, Nat.testBit_two_pow]
      by_cases z : k = j
      · subst z; rw [hk]; simp
      · simp [z]] at this
    omega
theorem loop_go {R α : Type} {ok : Unit → α → Prop} {f : Unit → α → Ct Unit R} : ∀ (l : List α), (∀ x, x ∈ l → ok () x ∧ f () x = .go ()) → okC ok f l () ∧ loopC f l () = .go ()
  | [], _ => ⟨trivial, rfl⟩
  | x :: l, h => by
    obtain ⟨h1, h2⟩ := h x List.mem_cons_self
    obtain ⟨h3, h4⟩ := loop_go l fun y hy => h y (List.mem_cons_of_mem _ hy)
    exact ⟨⟨h1, fun _ _ => h3⟩, by rw [loopC_go h2]; exact h4⟩
theorem no_fault {n : Nat} (hn : n ≤ 10) {s : List Nat} (hl : s.length = 2 ^ n) (hR : RF n (2 ^ n - 1) (nth s)) : ok_has_pair_fault s n ∧ m_has_pair_fault s n = false := by
  have t10 := two10 hn
  have hp := Nat.two_pow_pos n
  have e1 : 1 <<< n = 2 ^ n := shl_one n
  have h := loop_go (ok := sk_has_pair_fault_6 s n (2 ^ n - 1)) (f := st_has_pair_fault_5 s n (2 ^ n - 1)) (List.range (2 ^ n)) fun x hx => by
    rw [List.mem_range] at hx
    have dd : ∀ d, d ∈ m_digits_in ((2 ^ n - 1) ^^^ x) n → ∃ k, k < n ∧ x.testBit k = false ∧ d = 2 ^ k := fun d hd => by
      rw [digits_eq] at hd
      obtain ⟨k, hk, e⟩ := List.mem_map.mp hd
      rw [mem_iff, Nat.testBit_xor, Nat.testBit_two_pow_sub_one] at hk
      refine ⟨k, hk.1, ?_, e.symm⟩
      have := hk.2
      rw [decide_eq_true hk.1] at this
      simpa using this
    have es : ((m_digits_in ((2 ^ n - 1) ^^^ x) n).filter fun x5 => decide (nth s (x ||| x5) = nth s x)).map (fun x5 => x5) = ((mem n ((2 ^ n - 1) ^^^ x)).filter fun k => decide (nth s (x ||| 2 ^ k) = nth s x)).map (2 ^ ·) := by
      rw [List.map_id', digits_eq, List.filter_map]; rfl
    have st := hR.still (full_sub hx) (((mem n ((2 ^ n - 1) ^^^ x)).filter fun k => decide (nth s (x ||| 2 ^ k) = nth s x)).map (2 ^ ·)) fun d hd => by
      obtain ⟨k, hk, e⟩ := List.mem_map.mp hd
      rw [List.mem_filter, decide_eq_true_eq] at hk
      subst e
      exact ⟨full_sub (Nat.pow_lt_pow_right (by decide) (mem_lt hk.1)), hk.2⟩
    rw [or_sum _ x (List.Pairwise.filter _ (mem_nd _ _)) fun k hk => by
      rw [List.mem_filter] at hk
      obtain ⟨k2, _, q, e⟩ := dd (2 ^ k) (by rw [digits_eq]; exact List.mem_map.mpr ⟨k, hk.1, rfl⟩)
      have : k = k2 := (Nat.pow_right_inj (by decide)).mp e
      rw [this]; exact q] at st
    have wl : x + (((mem n ((2 ^ n - 1) ^^^ x)).filter fun k => decide (nth s (x ||| 2 ^ k) = nth s x)).map (2 ^ ·)).sum < 2 ^ n := lt_of_sub st.2 (by omega)
    refine ⟨⟨t_digits hn, Nat.le_trans (digits_len hn) (by decide), fun d hd => ?_, ?_⟩, ?_⟩
    · obtain ⟨k, k1, _, e⟩ := dd d hd
      subst e
      rw [hl]
      exact ⟨Nat.or_lt_two_pow hx (Nat.pow_lt_pow_right (by decide) k1), hx⟩
    · rw [es]
      exact ⟨by rw [hl]; exact wl, by rw [hl]; exact hx⟩
    · show (if decide (nth s x < nth s (x + (List.map (fun x5 => x5) _).sum)) = true then Ct.rt true else .go ()) = _
      rw [es, st.1, if_neg (by rw [decide_eq_true_eq]; omega)]
  refine ⟨⟨by omega, by omega, by rw [e1]; omega, ?_⟩, ?_⟩
  · rw [e1]; exact h.1
  · show (loopC (st_has_pair_fault_5 s n ((1 <<< n) - 1)) (List.range (1 <<< n)) ()).out (fun _ => false) = false
    rw [e1, h.2]; rfl
theorem so_st : SO (lexL ltN) := so_lex so_nat
def isBB (n : Nat) (s : List Nat) (m : Nat) : Bool := decide (nth s m = las s) && decide (card n m = las s)
def baseL (g s : List Nat) : List (List Nat) := ((List.range (2 ^ g.length)).filter (isBB g.length s)).map (stF g)
def mkMat (g s : List Nat) : Mat := ⟨g, srtL (lexL ltN) (baseL g s), s, 2 ^ g.length - 1⟩
theorem Good.len {n : Nat} {s : List Nat} (h : Good n s) : s.length = 2 ^ n := by obtain ⟨F, _, hR⟩ := h.ex; exact hR.len
theorem Good.rf {n : Nat} {s : List Nat} (h : Good n s) : RF n (2 ^ n - 1) (nth s) := by obtain ⟨F, I, hR⟩ := h.ex; exact hR.isR.rf I
theorem Good.base {n : Nat} {s : List Nat} (h : Good n s) : ∃ m, m < 2 ^ n ∧ isBB n s m = true := by
  obtain ⟨F, I, hR⟩ := h.ex
  have hp := Nat.two_pow_pos n
  obtain ⟨⟨u, h1, h2, h3⟩, _⟩ := hR.isR.max I (2 ^ n - 1) (by omega)
  have ul := lt_of_sub h1 (show 2 ^ n - 1 < 2 ^ n by omega)
  have e := hR.isR.yes u ul h2
  refine ⟨u, ul, ?_⟩
  unfold isBB
  rw [las_eq hR.len, ← h3, decide_eq_true e, decide_eq_true rfl]; rfl
theorem baseL_mem {g s : List Nat} {x : List Nat} : x ∈ baseL g s ↔ ∃ m, m < 2 ^ g.length ∧ isBB g.length s m = true ∧ x = stF g m := by
  unfold baseL
  rw [List.mem_map]
  constructor
  · rintro ⟨m, h, e⟩
    rw [List.mem_filter, List.mem_range] at h
    exact ⟨m, h.1, h.2, e.symm⟩
  · rintro ⟨m, h1, h2, e⟩
    exact ⟨m, List.mem_filter.mpr ⟨List.mem_range.mpr h1, h2⟩, e.symm⟩
theorem nd_map2 {l : List Nat} {f : Nat → List Nat} (h : l.Nodup) (q : ∀ x y, x ∈ l → y ∈ l → f x = f y → x = y) : (l.map f).Nodup := by
  induction l with
  | nil => exact List.nodup_nil
  | cons x l ih =>
    rw [List.map_cons, List.nodup_cons]
    rw [List.nodup_cons] at h
    refine ⟨fun z => ?_, ih h.2 fun a b ha hb => q a b (List.mem_cons_of_mem _ ha) (List.mem_cons_of_mem _ hb)⟩
    obtain ⟨y, hy, e⟩ := List.mem_map.mp z
    rw [q y x (List.mem_cons_of_mem _ hy) List.mem_cons_self e] at hy
    exact h.1 hy
theorem baseL_nd {g s : List Nat} (h : Gnd g) : (baseL g s).Nodup := by
  unfold baseL
  refine nd_map2 (List.Pairwise.filter _ List.nodup_range) fun x y hx hy e => ?_
  rw [List.mem_filter, List.mem_range] at hx hy
  exact st_inj h hx.1 hy.1 e
theorem baseL_len {g s : List Nat} (h : g.length ≤ 10) : (baseL g s).length ≤ 1024 := by
  unfold baseL
  rw [List.length_map]
  have := List.length_filter_le (isBB g.length s) (List.range (2 ^ g.length))
  rw [List.length_range] at this
  exact Nat.le_trans this (two10 h)
theorem init_ok {g s : List Nat} (h : Gnd g) (hs : Good g.length s) : ok_init1 g (srtL (lexL ltN) (baseL g s)) ∧ m_init1 g (srtL (lexL ltN) (baseL g s)) = mkMat g s := by
  have hn := h.len
  have e1 : 1 <<< g.length = 2 ^ g.length := shl_one _
  have bm : ∀ x, x ∈ srtL (lexL ltN) (baseL g s) ↔ ∃ m, m < 2 ^ g.length ∧ isBB g.length s m = true ∧ x = stF g m := fun x => srt_mem.trans baseL_mem
  have bl : (srtL (lexL ltN) (baseL g s)).length ≤ 1000000 := by rw [srt_len]; exact Nat.le_trans (baseL_len hn) (by decide)
  have bs : (srtL (lexL ltN) (baseL g s)).Pairwise fun a b => lexL ltN a b = true := srt_strict so_st (baseL_nd h)
  generalize eL : srtL (lexL ltN) (baseL g s) = L at bm bl bs
  obtain ⟨w1, w2⟩ := sets_within h (l := L) (fun x hx => by obtain ⟨m, _, _, e⟩ := (bm x).mp hx; exact ⟨m, e⟩) bs bl
  have ne : L ≠ [] := fun q => by
    obtain ⟨m, h1, h2⟩ := hs.base
    have := (bm (stF g m)).mpr ⟨m, h1, h2, rfl⟩
    rw [q] at this; cases this
  have lens : ∀ x, x ∈ L → x.length = las s := fun x hx => by
    obtain ⟨m, h1, h2, e⟩ := (bm x).mp hx
    unfold isBB at h2
    rw [Bool.and_eq_true, decide_eq_true_eq, decide_eq_true_eq] at h2
    rw [e, st_len]; exact h2.2
  have c1 : ((!decide (L = ([] : List (List Nat)))) && ((L.map fun x1 => decide (x1.length = (nth L 0).length)).all id)) = true := by
    rw [decide_eq_false ne, all_id fun x hx => by
      rw [decide_eq_true_eq, lens x hx, lens _ (nth_mem (List.length_pos_iff.mpr ne))]]; rfl
  have mm : ∀ m, m ∈ L.map (fun x2 => m_mask_from g x2) ↔ IsB g.length s m := fun m => by
    rw [List.mem_map]
    unfold IsB
    constructor
    · rintro ⟨x, hx, e⟩
      obtain ⟨k, h1, h2, e2⟩ := (bm x).mp hx
      rw [e2, mask_from_eq h h1] at e
      subst e
      unfold isBB at h2
      rw [Bool.and_eq_true, decide_eq_true_eq, decide_eq_true_eq] at h2
      exact ⟨h1, h2⟩
    · rintro ⟨h1, h2⟩
      refine ⟨stF g m, (bm _).mpr ⟨m, h1, ?_, rfl⟩, mask_from_eq h h1⟩
      unfold isBB
      rw [decide_eq_true h2.1, decide_eq_true h2.2]; rfl
  obtain ⟨r1, r2⟩ := masks_ranks hn hs mm (by rw [List.length_map]; exact bl)
  obtain ⟨f1, f2⟩ := no_fault hn hs.len hs.rf
  have c2 : m_checked_ranks g L = s := by
    unfold m_checked_ranks
    rw [if_pos c1, r2]
    unfold m_checked_ranks_1
    rw [f2]; rfl
  refine ⟨⟨h.ground, w1, by rw [w2]; rfl, ⟨fun _ => ⟨bl, fun x hx => List.length_pos_of_mem hx⟩, fun _ => ⟨bl, fun x _ => t_mask_from hn, r1, ?_⟩, fun z => by rw [c1] at z; cases z⟩, hn⟩, ?_⟩
  · rw [r2]
    exact ⟨f1, fun z => by rw [f2] at z; cases z⟩
  · unfold m_init1 mkMat
    rw [c2, e1, eL]
structure RkOk (n : Nat) (s : List Nat) : Prop where
  len : s.length = 2 ^ n
  rf : RF n (2 ^ n - 1) (nth s)
theorem Good.rk {n : Nat} {s : List Nat} (h : Good n s) : RkOk n s := ⟨h.len, h.rf⟩
theorem compl_lt {n m : Nat} (hm : m < 2 ^ n) : (2 ^ n - 1) ^^^ m < 2 ^ n := Nat.xor_lt_two_pow (by have := Nat.two_pow_pos n; omega) hm
def dualR (n : Nat) (s : List Nat) : List Nat := (List.range (2 ^ n)).map fun m => card n m + nth s ((2 ^ n - 1) ^^^ m) - las s
theorem dual_rk {n : Nat} {s : List Nat} (hs : RkOk n s) : RkOk n (dualR n s) ∧ ∀ m, m < 2 ^ n → las s ≤ card n m + nth s ((2 ^ n - 1) ^^^ m) := by
  have hp := Nat.two_pow_pos n
  have lE := las_eq hs.len
  have R := hs.rf
  have sx : ∀ m, Sub ((2 ^ n - 1) ^^^ m) (2 ^ n - 1) → True := fun _ _ => trivial
  have fs : ∀ {m}, m < 2 ^ n → Sub ((2 ^ n - 1) ^^^ m) (2 ^ n - 1) := fun h => Sub.xor _ _ (full_sub h)
  have ge : ∀ m, m < 2 ^ n → las s ≤ card n m + nth s ((2 ^ n - 1) ^^^ m) := fun m hm => by
    have h1 := R.sub m ((2 ^ n - 1) ^^^ m) (full_sub hm) (fs hm)
    have h2 := R.le m (full_sub hm)
    rw [show m ||| ((2 ^ n - 1) ^^^ m) = 2 ^ n - 1 from Nat.eq_of_testBit_eq fun j => by
      have := full_sub hm j
      revert this
      rw [Nat.testBit_or, Nat.testBit_xor]
      cases m.testBit j <;> cases (2 ^ n - 1).testBit j <;> simp] at h1
    rw [lE]; omega
  have at_ : ∀ m, m < 2 ^ n → nth (dualR n s) m = card n m + nth s ((2 ^ n - 1) ^^^ m) - las s := fun m hm => by
    unfold dualR
    rw [nth_map (by rw [List.length_range]; exact hm), nth_range hm]
  have lt : ∀ {a}, Sub a (2 ^ n - 1) → a < 2 ^ n := fun q => lt_of_sub q (by omega)
  refine ⟨⟨by unfold dualR; rw [List.length_map, List.length_range], ⟨fun a q => ?_, fun a b q r => ?_, fun a b q r => ?_⟩⟩, ge⟩
  · rw [at_ a (lt q), lE]
    have := R.mono _ _ (Sub.refl _) (fs (lt q))
    omega
  · have ha := lt (r.trans q)
    have hb := lt q
    rw [at_ a ha, at_ b hb]
    have h1 := R.sub ((2 ^ n - 1) ^^^ b) (b &&& ((2 ^ n - 1) ^^^ a)) (fs hb) ((Sub.andl _ _).trans q)
    have h2 := R.le (b &&& ((2 ^ n - 1) ^^^ a)) ((Sub.andl _ _).trans q)
    rw [show ((2 ^ n - 1) ^^^ b) ||| (b &&& ((2 ^ n - 1) ^^^ a)) = (2 ^ n - 1) ^^^ a from Nat.eq_of_testBit_eq fun j => by
      have p1 := q j
      have p2 := r j
      revert p1 p2
      simp only [Nat.testBit_or, Nat.testBit_xor, Nat.testBit_and]
      cases a.testBit j <;> cases b.testBit j <;> cases (2 ^ n - 1).testBit j <;> simp] at h1
    have c1 := card_oa n a (b &&& ((2 ^ n - 1) ^^^ a))
    rw [show a ||| (b &&& ((2 ^ n - 1) ^^^ a)) = b from Nat.eq_of_testBit_eq fun j => by
      have p1 := q j
      have p2 := r j
      revert p1 p2
      simp only [Nat.testBit_or, Nat.testBit_xor, Nat.testBit_and]
      cases a.testBit j <;> cases b.testBit j <;> cases (2 ^ n - 1).testBit j <;> simp,
      show a &&& (b &&& ((2 ^ n - 1) ^^^ a)) = 0 from Nat.eq_of_testBit_eq fun j => by
      have p1 := q j
      have p2 := r j
      revert p1 p2
      simp only [Nat.testBit_xor, Nat.testBit_and, Nat.zero_testBit]
      cases a.testBit j <;> cases b.testBit j <;> cases (2 ^ n - 1).testBit j <;> simp, card_zero] at c1
    omega
  · have ha := lt q
    have hb := lt r
    have ho := lt (q.or r)
    have hn := lt ((Sub.andl a b).trans q)
    rw [at_ a ha, at_ b hb, at_ _ ho, at_ _ hn]
    have h1 := R.sub ((2 ^ n - 1) ^^^ a) ((2 ^ n - 1) ^^^ b) (fs ha) (fs hb)
    rw [show ((2 ^ n - 1) ^^^ a) ||| ((2 ^ n - 1) ^^^ b) = (2 ^ n - 1) ^^^ (a &&& b) from Nat.eq_of_testBit_eq fun j => by
      have p1 := q j
      have p2 := r j
      revert p1 p2
      simp only [Nat.testBit_or, Nat.testBit_xor, Nat.testBit_and]
      cases a.testBit j <;> cases b.testBit j <;> cases (2 ^ n - 1).testBit j <;> simp,
      show ((2 ^ n - 1) ^^^ a) &&& ((2 ^ n - 1) ^^^ b) = (2 ^ n - 1) ^^^ (a ||| b) from Nat.eq_of_testBit_eq fun j => by
      have p1 := q j
      have p2 := r j
      revert p1 p2
      simp only [Nat.testBit_or, Nat.testBit_xor, Nat.testBit_and]
      cases a.testBit j <;> cases b.testBit j <;> cases (2 ^ n - 1).testBit j <;> simp] at h1
    have c := card_oa n a b
    have := ge a ha
    have := ge b hb
    have := ge _ ho
    have := ge _ hn
    omega
theorem dual_eq {g s : List Nat} (hn : g.length ≤ 10) (hs : RkOk g.length s) (b : List (List Nat)) :
    ok_dual ⟨g, b, s, 2 ^ g.length - 1⟩ ∧ ∃ b', m_dual ⟨g, b, s, 2 ^ g.length - 1⟩ = ⟨g, b', dualR g.length s, 2 ^ g.length - 1⟩ := by
  have t10 := two10 hn
  have hp := Nat.two_pow_pos g.length
  have f1 : 2 ^ g.length - 1 + 1 = 2 ^ g.length := by omega
  obtain ⟨d1, d2⟩ := dual_rk hs
  have h := fold_inv0 (ok := sk_dual_2 ⟨g, b, s, 2 ^ g.length - 1⟩) (f := st_dual_1 ⟨g, b, s, 2 ^ g.length - 1⟩) (fun i st => st = (List.range i).map fun m => card g.length m + nth s ((2 ^ g.length - 1) ^^^ m) - las s) (List.range (2 ^ g.length)) [] rfl fun i x st hx q => by
    obtain ⟨e, hi⟩ := rg_get hx
    subst e
    have e0 : st_dual_1 ⟨g, b, s, 2 ^ g.length - 1⟩ st x = st ++ [pop x + nth s ((2 ^ g.length - 1) ^^^ x) - las s] := rfl
    have pc := pop_card _ _ hi
    refine ⟨⟨by show x < 16777216; omega, by show _ < s.length; rw [hs.len]; exact compl_lt hi, by show 0 < s.length; rw [hs.len]; exact hp, ?_, by rw [q, List.length_map, List.length_range]; omega⟩, ?_⟩
    · show las s ≤ pop x + nth s ((2 ^ g.length - 1) ^^^ x)
      rw [pc]; exact d2 x hi
    · rw [e0, List.range_succ, List.map_append, ← q, pc]; rfl
  rw [List.length_range] at h
  obtain ⟨o1, r1⟩ := h
  have r1 : (List.range (2 ^ g.length)).foldl (st_dual_1 ⟨g, b, s, 2 ^ g.length - 1⟩) [] = dualR g.length s := r1
  have ol : ok_matroid_by_ranks g (dualR g.length s) := by
    refine ⟨⟨by rw [d1.len]; omega, by rw [List.length_range, d1.len]; omega, fun x hx => ?_, ?_⟩, hn⟩
    · rw [List.mem_range] at hx
      refine ⟨hx, by rw [d1.len]; exact hp, fun _ => ?_⟩
      rw [d1.len] at hx
      show x < 16777216; omega
    · have fl : (((List.range (dualR g.length s).length).filter fun x1 => decide (nth (dualR g.length s) x1 = las (dualR g.length s)) && decide (las (dualR g.length s) = m_ones_of x1)).map fun x1 => x1).length ≤ 1000000 := by
        rw [List.length_map]
        have := List.length_filter_le (fun x1 => decide (nth (dualR g.length s) x1 = las (dualR g.length s)) && decide (las (dualR g.length s) = m_ones_of x1)) (List.range (dualR g.length s).length)
        rw [List.length_range] at this
        rw [d1.len] at this ⊢
        omega
      exact ⟨fl, fun x _ => t_set_from hn, by rw [List.length_map]; exact fl⟩
  refine ⟨⟨by show 2 ^ g.length - 1 + 1 < _; omega, ?_, ?_⟩, m_bases_by_ranks g (dualR g.length s), ?_⟩
  · show okF _ _ (List.range (2 ^ g.length - 1 + 1)) []
    rw [f1]; exact o1
  · show ok_matroid_by_ranks g ((List.range (2 ^ g.length - 1 + 1)).foldl (st_dual_1 ⟨g, b, s, 2 ^ g.length - 1⟩) [])
    rw [f1, r1]; exact ol
  · show m_init2 g (m_bases_by_ranks g ((List.range (2 ^ g.length - 1 + 1)).foldl (st_dual_1 ⟨g, b, s, 2 ^ g.length - 1⟩) [])) ((List.range (2 ^ g.length - 1 + 1)).foldl (st_dual_1 ⟨g, b, s, 2 ^ g.length - 1⟩) []) = _
    rw [f1, r1]
    show Mat.mk _ _ _ (1 <<< g.length - 1) = _
    rw [shl_one]
theorem compl_sub {n i : Nat} (h : i < 2 ^ n) : 2 ^ n - 1 - i = (2 ^ n - 1) ^^^ i := Nat.eq_of_testBit_eq fun j => by
  rw [show 2 ^ n - 1 - i = 2 ^ n - (i + 1) by omega, Nat.testBit_two_pow_sub_succ h, Nat.testBit_xor, Nat.testBit_two_pow_sub_one]
  cases e : i.testBit j with
  | true => rw [decide_eq_true (sub_lt h e)]; rfl
  | false => simp
theorem loop_inv {S R α : Type} {ok : S → α → Prop} {f : S → α → Ct S R} (Inv : Nat → S → Prop) : ∀ (l : List α) (s0 : S) (j : Nat), Inv j s0 → (∀ i x s, x ∈ l → i < j + l.length → Inv i s → ok s x ∧ ∃ s2, f s x = .go s2 ∧ Inv (i + 1) s2) → okC ok f l s0 ∧ ∃ s2, loopC f l s0 = .go s2
  | [], s0, j, _, _ => ⟨trivial, s0, rfl⟩
  | x :: l, s0, j, h0, hs => by
    obtain ⟨o, s2, e, i⟩ := hs j x s0 List.mem_cons_self (by simp) h0
    obtain ⟨h1, s3, h2⟩ := loop_inv Inv l s2 (j + 1) i fun i y s hy hi q => hs i y s (List.mem_cons_of_mem _ hy) (by rw [List.length_cons]; omega) q
    exact ⟨⟨o, fun s4 e4 => by rw [e] at e4; cases e4; exact h1⟩, s3, by rw [loopC_go e]; exact h2⟩
/-! ### by hand -/
theorem lcS_inv {S α β : Type} {okk : S → α → Prop} {q : S → α → Bool} {s1 : S → α → S} {f : S → α → β} {s2 : S → α → S} (Inv : Nat → S → Prop) (Pr : β → Prop) : ∀ (l : List α) (s0 : S) (j : Nat), Inv j s0 → (∀ i x s, x ∈ l → i < j + l.length → Inv i s → okk s x ∧ (q s x = true → Pr (f s x) ∧ Inv (i + 1) (s2 s x)) ∧ (q s x = false → Inv (i + 1) (s1 s x))) →
    okS okk q s1 s2 l s0 ∧ (∀ y, y ∈ (lcS q s1 f s2 l s0).1 → Pr y) ∧ Inv (j + l.length) (lcS q s1 f s2 l s0).2
  | [], s0, j, h0, _ => ⟨trivial, fun _ h => (by cases h), h0⟩
  | x :: l, s0, j, h0, hs => by
    obtain ⟨o, ht, hf⟩ := hs j x s0 List.mem_cons_self (by simp) h0
    have go : ∀ s', Inv (j + 1) s' → okS okk q s1 s2 l s' ∧ (∀ y, y ∈ (lcS q s1 f s2 l s').1 → Pr y) ∧ Inv (j + (x :: l).length) (lcS q s1 f s2 l s').2 := fun s' h' => by
      have := lcS_inv Inv Pr l s' (j + 1) h' fun i y s hy hi q => hs i y s (List.mem_cons_of_mem _ hy) (by rw [List.length_cons]; omega) q
      rwa [show j + 1 + l.length = j + (x :: l).length by rw [List.length_cons]; omega] at this
    by_cases c : q s0 x = true
    · obtain ⟨p, i⟩ := ht c
      obtain ⟨g1, g2, g3⟩ := go _ i
      refine ⟨⟨o, by rw [if_pos c]; exact g1⟩, ?_, ?_⟩
      · unfold lcS
        rw [if_pos c]
        intro y hy
        rcases List.mem_cons.mp hy with hy | hy
        · rw [hy]; exact p
        · exact g2 y hy
      · unfold lcS
        rw [if_pos c]; exact g3
    · obtain ⟨g1, g2, g3⟩ := go _ (hf (eq_false_of_ne_true c))
      refine ⟨⟨o, by rw [if_neg c]; exact g1⟩, ?_, ?_⟩
      · unfold lcS
        rw [if_neg c]; exact g2
      · unfold lcS
        rw [if_neg c]; exact g3
theorem lcS_all {S α β : Type} {s1 : S → α → S} {f : S → α → β} {s2 : S → α → S} : ∀ (l : List α) (s0 : S), (lcS (fun _ _ => true) s1 f s2 l s0).1.length = l.length
  | [], _ => rfl
  | x :: l, s0 => by
    unfold lcS
    rw [if_pos rfl, List.length_cons, List.length_cons, lcS_all l]
/-! ### the ground -/
theorem weight_nat {x : Nat} (h : x < 256) : PyData.weight (D.py (eN x)) ≤ 9 := by
  show (if (x : Int) == 0 then 0 else (x : Int).natAbs.log2 + 1) ≤ 9
  by_cases c : x = 0
  · subst c; decide
  · have : (x : Int).natAbs.log2 < 8 := by
      rw [Int.natAbs_natCast]
      exact (Nat.log2_lt c).mpr h
    split
    · omega
    · omega
theorem weight_nats : ∀ {l : List Nat}, (∀ x, x ∈ l → x < 256) → PyData.weightAll (l.map fun x => D.py (eN x)) ≤ 10 * l.length
  | [], _ => Nat.le_refl _
  | x :: l, h => by
    have h1 := weight_nat (h x List.mem_cons_self)
    have h2 := weight_nats (l := l) fun y hy => h y (List.mem_cons_of_mem _ hy)
    show PyData.weight (D.py (eN x)) + 1 + PyData.weightAll (l.map fun x => D.py (eN x)) ≤ 10 * (l.length + 1)
    omega
theorem py_tup (l : List Nat) : D.py (eTup eN l) = .tuple ((l.map fun x : Nat => (x : Int)).map .int) := by
  show PyData.tuple (D.pyL (l.map eN)) = _
  rw [D.pyL_map, List.map_map, List.map_map]; rfl
theorem short_nats {l : List Nat} (h : ∀ x, x ∈ l → x < 256) : PyData.intsShortAll 13 ((l.map fun x : Nat => (x : Int)).map .int) = true := PyData.intsShortAll_ints _ fun n hn => by
  obtain ⟨x, hx, e⟩ := List.mem_map.mp hn
  have := h x hx
  subst e
  rw [Int.natAbs_natCast]; omega
theorem show_nats : ∀ {l : List Nat}, (∀ x, x ∈ l → x < 256) → PyData.showableAll ((l.map fun x : Nat => (x : Int)).map .int) = true
  | [], _ => rfl
  | x :: l, h => by
    show (decide ((x : Int).natAbs.log2 < 1920) && PyData.showableAll ((l.map fun x : Nat => (x : Int)).map .int)) = true
    rw [show_nats fun y hy => h y (List.mem_cons_of_mem _ hy), Bool.and_true, decide_eq_true_eq, Int.natAbs_natCast]
    have := h x List.mem_cons_self
    by_cases c : x = 0
    · subst c; decide
    · exact Nat.lt_trans ((Nat.log2_lt c).mpr (show x < 2 ^ 8 from this)) (by decide)
theorem rp_tup {l : List Nat} (h : ∀ x, x ∈ l → x < 256) (hl : l.length ≤ 10) : RpOk (D.py (eTup eN l)) := by
  have lay : PyData.layable0 (D.py (eTup eN l)) = true := by
    unfold PyData.layable0
    rw [canLay_py (DatE.pure (DatE.tup (DatE.of Dat.nat)) l), decide_eq_true (Nat.le_trans (DatE.dep (DatE.tup (DatE.of Dat.nat)) l) (by decide))]
    refine decide_eq_true ?_
    show PyData.weightAll (D.pyL (l.map eN)) ≤ _
    rw [D.pyL_map, List.map_map]
    exact Nat.le_trans (weight_nats h) (by omega)
  refine ⟨lay, ?_, PyData.shown_fits_of_layable0 (B := 13) (by decide) (by decide) lay ?_⟩
  · rw [py_tup]; exact show_nats h
  · rw [py_tup]; exact short_nats h
theorem rp_list {L : List (List Nat)} (h : ∀ l, l ∈ L → (∀ x, x ∈ l → x < 256) ∧ l.length ≤ 10) (hl : L.length ≤ 10) : RpOk (D.py (eLst (eTup eN) L)) := by
  have e : D.py (eLst (eTup eN) L) = .list (L.map fun l => D.py (eTup eN l)) := by
    show PyData.list (D.pyL (L.map (eTup eN))) = _
    rw [D.pyL_map, List.map_map]; rfl
  have lay : PyData.layable0 (D.py (eLst (eTup eN) L)) = true := by
    unfold PyData.layable0
    rw [canLay_py (DatE.pure (DatE.list (DatE.tup (DatE.of Dat.nat))) L), decide_eq_true (Nat.le_trans (DatE.dep (DatE.list (DatE.tup (DatE.of Dat.nat))) L) (by decide))]
    refine decide_eq_true ?_
    rw [e]
    have : ∀ L : List (List Nat), (∀ l, l ∈ L → (∀ x, x ∈ l → x < 256) ∧ l.length ≤ 10) → PyData.weightAll (L.map fun l => D.py (eTup eN l)) ≤ 101 * L.length := by
      intro L
      induction L with
      | nil => intro _; exact Nat.le_refl _
      | cons l L ih =>
        intro h
        have h1 := h l List.mem_cons_self
        have h2 := ih fun y hy => h y (List.mem_cons_of_mem _ hy)
        have h3 : PyData.weight (D.py (eTup eN l)) ≤ 100 := by
          show PyData.weightAll (D.pyL (l.map eN)) ≤ _
          rw [D.pyL_map, List.map_map]
          exact Nat.le_trans (weight_nats h1.1) (by omega)
        show PyData.weight (D.py (eTup eN l)) + 1 + PyData.weightAll (L.map fun l => D.py (eTup eN l)) ≤ 101 * (L.length + 1)
        omega
    exact Nat.le_trans (this L h) (by omega)
  have each : ∀ d, d ∈ (L.map fun l => D.py (eTup eN l)) → PyData.showable d = true ∧ PyData.intsShort 13 d = true := fun d hd => by
    obtain ⟨l, hl, e⟩ := List.mem_map.mp hd
    subst e
    rw [py_tup]
    exact ⟨show_nats (h l hl).1, short_nats (h l hl).1⟩
  have sh : ∀ ds : List PyData, (∀ d, d ∈ ds → PyData.showable d = true) → PyData.showableAll ds = true := by
    intro ds
    induction ds with
    | nil => intro _; rfl
    | cons d ds ih =>
      intro h
      show (PyData.showable d && PyData.showableAll ds) = true
      rw [h d List.mem_cons_self, ih fun y hy => h y (List.mem_cons_of_mem _ hy)]; rfl
  refine ⟨lay, ?_, PyData.shown_fits_of_layable0 (B := 13) (by decide) (by decide) lay ?_⟩
  · rw [e]; exact sh _ fun d hd => (each d hd).1
  · rw [e]; exact intsShortAll_of fun d hd => (each d hd).2
end K66

namespace K66
open PySem PySem.Spec PyProof.Rows L2 DL
section
variable {P : Program} {w : World} {K : PySem.W.Frag} {mg : Str → Option Value} {base : Heap} {f : Addr} {fd : FuncData}
/-! ### pc_link -/
abbrev s_pc_link : Stmt := top 49
abbrev N_pc_link : List Str := ["matroid", "mask", "ranks", "full"]
theorem sc_pc_link : FnScope N_pc_link ["matroid", "mask"] (defScope s_pc_link) := ⟨rfl, rfl, rfl, by decide +kernel, rfl, by decide +kernel, by decide +kernel⟩
def m_pc_link (matroid_ : Mat) (mask_ : Nat) : Int := (((((nth matroid_.ranks mask_) + (nth matroid_.ranks (matroid_.full ^^^ mask_))) : Nat) : Int) - (((nth matroid_.ranks matroid_.full) : Nat) : Int))
def ok_pc_link (matroid_ : Mat) (mask_ : Nat) : Prop := (mask_ < matroid_.ranks.length) ∧ ((matroid_.full ^^^ mask_) < matroid_.ranks.length) ∧ (matroid_.full < matroid_.ranks.length)
def R_pc_link (C : Addr) (ds : List D) (r : Var) : Prop := ∃ (matroid_ : Mat) (mask_ : Nat), ok_pc_link matroid_ mask_ ∧ ds = [(eM C) matroid_, eN mask_] ∧ r = (fun v => Var.fz (D.int v)) (m_pc_link matroid_ mask_)
theorem c_pc_link {C : Addr} {k : Nat} (F : FunD K "pc_link" "pc_link" (defArgs s_pc_link) (defBody s_pc_link) (defScope s_pc_link) [] [] f fd) (hm : mg "pc_link" = some (.ref f)) (cl_M : Cls K C) (na_own_full : NoAttr K C "own_full") (na_own_ranks : NoAttr K C "own_ranks") :
    Fc P w K mg base "pc_link" ["matroid", "mask"] (k + 1) (FP (R_pc_link C)) := by
  have Sc := sc_pc_link
  refine fc_of F hm Sc (by decide) (fun _ _ _ _ _ _ us hl => match us, hl with | [_, _], _ => rfl) (FP.par (n := 2) fun ds r h => by obtain ⟨_, _, _, rfl, _⟩ := h; rfl) fun cdv A outer s H E hr as r as' hS => ?_
  obtain ⟨ds, e1, e2, h⟩ := hS
  have pk : ∀ ρ, ParOk as as' ρ := fun ρ => FP.ok e1 e2
  subst e1
  have hu := hr.units
  show XS _ _ _ (kF r (ParOk _ as'))
  generalize ParOk _ as' = PK at pk ⊢
  obtain ⟨matroid_, mask_, ho, e3, e4⟩ := h
  subst e3 e4
  show XS _ _ [.fz ((eM C) matroid_), .fz (eN mask_), .un, .un] (kF ((fun v => Var.fz (D.int v)) (m_pc_link matroid_ mask_)) PK)
  exact (xs_par 2 3 [.fz ((eM C) matroid_), .fz (eN mask_), .fz ((eLst eN) matroid_.ranks), .fz (eN matroid_.full)] (ea_cons (ev_fld (ev_var (i := 0) rfl rfl) cl_M na_own_ranks rfl) (ea_cons (ev_fld (ev_var (i := 0) rfl rfl) cl_M na_own_full rfl) ea_nil)) rfl Sc.nd rfl rfl (by decide) rfl rfl (xs_one (x1_ret (ev_sub (ev_addN (i := (nth matroid_.ranks mask_)) (j := (nth matroid_.ranks (matroid_.full ^^^ mask_))) (ev_ixLN (enc := eN) (l := matroid_.ranks) (i := mask_) (ev_var (i := 2) rfl rfl) (ev_var (i := 1) rfl rfl) ho.1) (ev_ixLN (enc := eN) (l := matroid_.ranks) (i := (matroid_.full ^^^ mask_)) (ev_var (i := 2) rfl rfl) (ev_xorN (i := matroid_.full) (j := mask_) (ev_var (i := 3) rfl rfl) (ev_var (i := 1) rfl rfl)) ho.2.1)) (ev_ixLN (enc := eN) (l := matroid_.ranks) (i := matroid_.full) (ev_var (i := 2) rfl rfl) (ev_var (i := 3) rfl rfl) ho.2.2)) ⟨rfl, pk _⟩)))
/-! ### pc_lowest -/
abbrev s_pc_lowest : Stmt := top 50
abbrev N_pc_lowest : List Str := ["mask"]
theorem sc_pc_lowest : FnScope N_pc_lowest ["mask"] (defScope s_pc_lowest) := ⟨rfl, rfl, rfl, by decide +kernel, rfl, by decide +kernel, by decide +kernel⟩
def m_pc_lowest (mask_ : Nat) : Nat := (lowb mask_)
def ok_pc_lowest (_mask_ : Nat) : Prop := True
def R_pc_lowest (ds : List D) (r : Var) : Prop := ∃ (mask_ : Nat), ok_pc_lowest mask_ ∧ ds = [eN mask_] ∧ r = (fun v => Var.fz (eN v)) (m_pc_lowest mask_)
theorem c_pc_lowest {k : Nat} (F : FunD K "pc_lowest" "pc_lowest" (defArgs s_pc_lowest) (defBody s_pc_lowest) (defScope s_pc_lowest) [] [] f fd) (hm : mg "pc_lowest" = some (.ref f))  :
    Fc P w K mg base "pc_lowest" ["mask"] (k + 1) (FP (R_pc_lowest)) := by
  have Sc := sc_pc_lowest
  refine fc_of F hm Sc (by decide) (fun _ _ _ _ _ _ us hl => match us, hl with | [_], _ => rfl) (FP.par (n := 1) fun ds r h => by obtain ⟨_, _, rfl, _⟩ := h; rfl) fun cdv A outer s H E hr as r as' hS => ?_
  obtain ⟨ds, e1, e2, h⟩ := hS
  have pk : ∀ ρ, ParOk as as' ρ := fun ρ => FP.ok e1 e2
  subst e1
  have hu := hr.units
  show XS _ _ _ (kF r (ParOk _ as'))
  generalize ParOk _ as' = PK at pk ⊢
  obtain ⟨mask_, ho, e3, e4⟩ := h
  subst e3 e4
  show XS _ _ [.fz (eN mask_)] (kF ((fun v => Var.fz (eN v)) (m_pc_lowest mask_)) PK)
  exact (xs_one (x1_ret (ev_lowb (n := mask_) (ev_var (i := 0) rfl rfl) (ev_sub (i := 0) (j := (mask_ : Int)) ev_int (ev_var (i := 0) rfl rfl))) ⟨rfl, pk _⟩))
/-! ### pc_part_masks -/
abbrev s_pc_part_masks : Stmt := top 51
abbrev N_pc_part_masks : List Str := ["matroid", "found", "rest", "some", "least", "mask"]
theorem sc_pc_part_masks : FnScope N_pc_part_masks ["matroid"] (defScope s_pc_part_masks) := ⟨rfl, rfl, rfl, by decide +kernel, rfl, by decide +kernel, by decide +kernel⟩
def m_pc_part_masks_1 (s1 : ((List Nat) × Nat)) (least_7 : Nat) (rest_8 : Nat) : ((List Nat) × Nat) := ((s1.1 ++ [least_7]), rest_8)
def m_pc_part_masks_2 (s1 : ((List Nat) × Nat)) (least_7 : Nat) : ((List Nat) × Nat) := (m_pc_part_masks_1 s1 least_7 (s1.2 ^^^ least_7))
def ok_pc_part_masks_3 (s1 : ((List Nat) × Nat)) (least_7 : Nat) : Prop := (s1.1.length ≤ 1000000)
def m_pc_part_masks_4 (s1 : ((List Nat) × Nat)) (some_5 : (List Nat)) : ((List Nat) × Nat) := (m_pc_part_masks_2 s1 (nth (minL (lexL ltN) ((some_5).map (fun x6 => ([(m_ones_of x6), x6] : List Nat)))) 1))
def ok_pc_part_masks_5 (s1 : ((List Nat) × Nat)) (some_5 : (List Nat)) : Prop := ((some_5).length ≤ 1000000) ∧ (∀ x6 ∈ some_5, (ok_ones_of x6)) ∧ ((some_5).map (fun x6 => ([(m_ones_of x6), x6] : List Nat)) ≠ []) ∧ (1 < (minL (lexL ltN) ((some_5).map (fun x6 => ([(m_ones_of x6), x6] : List Nat)))).length) ∧ (ok_pc_part_masks_3 s1 (nth (minL (lexL ltN) ((some_5).map (fun x6 => ([(m_ones_of x6), x6] : List Nat)))) 1))
def m_pc_part_masks_6 (matroid_ : Mat) (s1 : ((List Nat) × Nat)) (some_3 : (List Nat)) : ((List Nat) × Nat) := (m_pc_part_masks_4 s1 (((some_3).filter (fun x4 => (decide ((m_pc_link matroid_ x4) = (0 : Int))))).map (fun x4 => x4)))
def ok_pc_part_masks_7 (matroid_ : Mat) (s1 : ((List Nat) × Nat)) (some_3 : (List Nat)) : Prop := ((some_3).length ≤ 1000000) ∧ (∀ x4 ∈ some_3, (ok_pc_link matroid_ x4)) ∧ (ok_pc_part_masks_5 s1 (((some_3).filter (fun x4 => (decide ((m_pc_link matroid_ x4) = (0 : Int))))).map (fun x4 => x4)))
def wc_pc_part_masks_8 (s1 : ((List Nat) × Nat)) : Bool := (decide (0 < s1.2))
def st_pc_part_masks_9 (matroid_ : Mat) (s1 : ((List Nat) × Nat)) : ((List Nat) × Nat) := (m_pc_part_masks_6 matroid_ s1 (((rgN 1 (s1.2 + 1)).filter (fun x2 => ((decide ((x2 &&& s1.2) = x2)) && (decide (0 < (x2 &&& (m_pc_lowest s1.2))))))).map (fun x2 => x2)))
def sk_pc_part_masks_10 (matroid_ : Mat) (s1 : ((List Nat) × Nat)) : Prop := (1 < 2 ^ 62 ∧ (s1.2 + 1) < 2 ^ 62) ∧ ((rgN 1 (s1.2 + 1)).length ≤ 1000000) ∧ (∀ x2 ∈ rgN 1 (s1.2 + 1), ((decide ((x2 &&& s1.2) = x2)) = true → (ok_pc_lowest s1.2))) ∧ (ok_pc_part_masks_7 matroid_ s1 (((rgN 1 (s1.2 + 1)).filter (fun x2 => ((decide ((x2 &&& s1.2) = x2)) && (decide (0 < (x2 &&& (m_pc_lowest s1.2))))))).map (fun x2 => x2)))
def m_pc_part_masks_11 (s9 : ((List Nat) × Nat)) : (List Nat) := s9.1
def m_pc_part_masks (matroid_ : Mat) : (List Nat) := (m_pc_part_masks_11 (whl (fun s1 => wc_pc_part_masks_8 s1) (fun s1 => st_pc_part_masks_9 matroid_ s1) (matroid_.full) (([] : List Nat), matroid_.full)))
def ok_pc_part_masks (matroid_ : Mat) : Prop := (okW (fun _ => True) (fun s1 => sk_pc_part_masks_10 matroid_ s1) (fun s1 => wc_pc_part_masks_8 s1) (fun s1 => st_pc_part_masks_9 matroid_ s1) (matroid_.full) (([] : List Nat), matroid_.full))
def R_pc_part_masks (C : Addr) (ds : List D) (r : Var) : Prop := ∃ (matroid_ : Mat), ok_pc_part_masks matroid_ ∧ ds = [(eM C) matroid_] ∧ r = (fun v => Var.ow ((eLst eN) v)) (m_pc_part_masks matroid_)
theorem c_pc_part_masks {C : Addr} {k : Nat} (F : FunD K "pc_part_masks" "pc_part_masks" (defArgs s_pc_part_masks) (defBody s_pc_part_masks) (defScope s_pc_part_masks) [] [] f fd) (hm : mg "pc_part_masks" = some (.ref f)) (m_min : mg "min" = none) (m_range : mg "range" = none) (cl_M : Cls K C) (na_own_full : NoAttr K C "own_full") (F_pc_lowest : Fc P w K mg base "pc_lowest" ["mask"] k (FP (R_pc_lowest))) (F_pc_link : Fc P w K mg base "pc_link" ["matroid", "mask"] k (FP (R_pc_link C))) (F_ones_of : Fc P w K mg base "ones_of" ["mask"] k (FP (R_ones_of))) :
    Fc P w K mg base "pc_part_masks" ["matroid"] (k + 1) (FP (R_pc_part_masks C)) := by
  have Sc := sc_pc_part_masks
  refine fc_of F hm Sc (by decide) (fun _ _ _ _ _ _ us hl => match us, hl with | [_], _ => rfl) (FP.par (n := 1) fun ds r h => by obtain ⟨_, _, rfl, _⟩ := h; rfl) fun cdv A outer s H E hr as r as' hS => ?_
  obtain ⟨ds, e1, e2, h⟩ := hS
  have pk : ∀ ρ, ParOk as as' ρ := fun ρ => FP.ok e1 e2
  subst e1
  have hu := hr.units
  show XS _ _ _ (kF r (ParOk _ as'))
  generalize ParOk _ as' = PK at pk ⊢
  obtain ⟨matroid_, ho, e3, e4⟩ := h
  subst e3 e4
  show XS _ _ [.fz ((eM C) matroid_), .un, .un, .un, .un, .un] (kF ((fun v => Var.ow ((eLst eN) v)) (m_pc_part_masks matroid_)) PK)
  exact (xs_parU 1 2 [.fz ((eM C) matroid_), .ow ((eLst eN) ([] : List Nat)), .fz (eN matroid_.full), .un, .un, .un] (er_cons (ev_lstT eN ([] : List Nat) ea_nil) (er_cons (ev_fld (ev_var (i := 0) rfl rfl) cl_M na_own_full rfl) er_nil)) rfl Sc.nd rfl rfl (by decide) (by first | exact .inl rfl | exact .inr rfl) (by first | exact .inl rfl | exact .inr rfl) (xs_while (fun s1 => wc_pc_part_masks_8 s1) (fun s1 => st_pc_part_masks_9 matroid_ s1) (matroid_.full) (([] : List Nat), matroid_.full) (fun _ => True) (fun s1 => sk_pc_part_masks_10 matroid_ s1) (fun s1 : ((List Nat) × Nat) => [.fz ((eM C) matroid_), .ow ((eLst eN) s1.1), .fz (eN s1.2), .un, .un, .un]) (fun _ => True) (fun s9 => kF ((fun v => Var.ow ((eLst eN) v)) (m_pc_part_masks_11 s9)) PK) ho (fun s1 ho => (et_cp (cp_gtN (i := s1.2) (j := 0) (ev_var (i := 2) rfl rfl) (ev_natC (n := 0))))) (fun s1 hw ho => (xs_setLcG (own := [("mask", 5)]) (js := [5]) 3 (rgN 1 (s1.2 + 1)) eN eN (fun x2 => [.fz ((eM C) matroid_), .ow ((eLst eN) s1.1), .fz (eN s1.2), .un, .un, .fz (eN x2)]) (fun x2 => ((decide ((x2 &&& s1.2) = x2)) && (decide (0 < (x2 &&& (m_pc_lowest s1.2)))))) (fun x2 => x2) (fun some_3 => ok_pc_part_masks_7 matroid_ s1 some_3) (fun some_3 => [.fz ((eM C) matroid_), .ow ((eLst eN) s1.1), .fz (eN s1.2), .fz ((eLst eN) some_3), .un, .un]) (fun some_3 => kL ((fun s1 : ((List Nat) × Nat) => [.fz ((eM C) matroid_), .ow ((eLst eN) s1.1), .fz (eN s1.2), .un, .un, .un]) (m_pc_part_masks_6 matroid_ s1 some_3))) rfl Sc.nd rfl rfl (ei_range2N (by rfl) m_range (ea_cons (ev_natC (n := 1)) (ea_1 (ev_addN (i := s1.2) (j := 1) (ev_var (i := 2) rfl rfl) (ev_natC (n := 1))))) ho.1) (blkOk_by (own := [("mask", 5)]) (by kernel_rfl)) (by decide) (fun _ _ => rfl) (fun x2 _ _ _ _ _ _ => (xg_name 5 Sc.nd rfl (by first | exact .inl rfl | exact .inr rfl) rfl)) (fun x2 hx2 _ _ _ _ _ => ets_one ((ew_and (et_cp (cp_eqN (i := (x2 &&& s1.2)) (j := x2) (ev_andN (i := x2) (j := s1.2) (ev_var (i := 5) rfl rfl) (ev_var (i := 2) rfl rfl)) (ev_var (i := 5) rfl rfl))) (fun hc0 => (ew_and1 (et_cp (cp_gtN (i := (x2 &&& (m_pc_lowest s1.2))) (j := 0) (ev_andN (i := x2) (j := (m_pc_lowest s1.2)) (ev_var (i := 5) rfl rfl) (ev_call F_pc_lowest hr (by rfl) pass0 (ea_cons (ev_var (i := 2) rfl rfl) ea_nil) (FP.mk ⟨s1.2, ((ho.2.2.1 x2 hx2) hc0), rfl, rfl⟩))) (ev_natC (n := 0)))))))).t) (fun x2 hx2 hqx2 _ _ _ _ _ => (ev_var (i := 5) rfl rfl)) (Nat.lt_of_le_of_lt ho.2.1 (by decide)) ho.2.2.2 (fun some_3 hv => (xs_setLcG (own := [("mask", 5)]) (js := [5]) 3 (some_3) eN eN (fun x4 => [.fz ((eM C) matroid_), .ow ((eLst eN) s1.1), .fz (eN s1.2), .fz ((eLst eN) some_3), .un, .fz (eN x4)]) (fun x4 => (decide ((m_pc_link matroid_ x4) = (0 : Int)))) (fun x4 => x4) (fun some_5 => ok_pc_part_masks_5 s1 some_5) (fun some_5 => [.fz ((eM C) matroid_), .ow ((eLst eN) s1.1), .fz (eN s1.2), .fz ((eLst eN) some_5), .un, .un]) (fun some_5 => kL ((fun s1 : ((List Nat) × Nat) => [.fz ((eM C) matroid_), .ow ((eLst eN) s1.1), .fz (eN s1.2), .un, .un, .un]) (m_pc_part_masks_4 s1 some_5))) rfl Sc.nd rfl rfl (ei_list (ev_var (i := 3) rfl rfl)) (blkOk_by (own := [("mask", 5)]) (by kernel_rfl)) (by decide) (fun _ _ => rfl) (fun x4 _ _ _ _ _ _ => (xg_name 5 Sc.nd rfl (by first | exact .inl rfl | exact .inr rfl) rfl)) (fun x4 hx4 _ _ _ _ _ => ets_one (et_cp (cp_eqI (i := (m_pc_link matroid_ x4)) (j := (0 : Int)) (ev_call F_pc_link hr (by rfl) pass0 (ea_cons (ev_var (i := 0) rfl rfl) (ea_cons (ev_var (i := 5) rfl rfl) ea_nil)) (FP.mk ⟨matroid_, x4, (hv.2.1 x4 hx4), rfl, rfl⟩)) (ev_natC (n := 0))))) (fun x4 hx4 hqx4 _ _ _ _ _ => (ev_var (i := 5) rfl rfl)) (Nat.lt_of_le_of_lt hv.1 (by decide)) hv.2.2 (fun some_5 hv => (xs_setG 4 (fun v => Var.fz (eN v)) (nth (minL (lexL ltN) ((some_5).map (fun x6 => ([(m_ones_of x6), x6] : List Nat)))) 1) (fun least_7 => ok_pc_part_masks_3 s1 least_7) (fun least_7 => [.fz ((eM C) matroid_), .ow ((eLst eN) s1.1), .fz (eN s1.2), .fz ((eLst eN) some_5), .fz (eN least_7), .un]) (fun least_7 => kL ((fun s1 : ((List Nat) × Nat) => [.fz ((eM C) matroid_), .ow ((eLst eN) s1.1), .fz (eN s1.2), .un, .un, .un]) (m_pc_part_masks_2 s1 least_7))) (ev_ixTN (enc := eN) (l := (minL (lexL ltN) ((some_5).map (fun x6 => ([(m_ones_of x6), x6] : List Nat))))) (i := 1) (ev_minT (Dat.tup Dat.nat) (by decide) hu (by rfl) m_min rfl (ea_1 (ev_fr (ev_lcM (own := [("mask", 5)]) (js := [5]) (some_5) eN (eTup eN) (fun x6 => [.fz ((eM C) matroid_), .ow ((eLst eN) s1.1), .fz (eN s1.2), .fz ((eLst eN) some_5), .un, .fz (eN x6)]) (fun x6 => ([(m_ones_of x6), x6] : List Nat)) rfl Sc.nd (ei_list (ev_var (i := 3) rfl rfl)) (blkOk_by (own := [("mask", 5)]) (by kernel_rfl)) (by decide) (fun _ _ => rfl) (fun x6 _ _ _ _ _ _ => (xg_name 5 Sc.nd rfl (by first | exact .inl rfl | exact .inr rfl) rfl)) (fun x6 hx6 _ _ _ _ _ => (ev_tupT eN ([(m_ones_of x6), x6] : List Nat) (ea_cons (ev_call F_ones_of hr (by rfl) pass0 (ea_cons (ev_var (i := 5) rfl rfl) ea_nil) (FP.mk ⟨x6, (hv.2.1 x6 hx6), rfl, rfl⟩)) (ea_cons (ev_var (i := 5) rfl rfl) ea_nil)))) (Nat.lt_of_le_of_lt hv.1 (by decide))))) hv.2.2.1) (ev_natC (n := 1)) hv.2.2.2.1) Sc.nd rfl (by first | exact .inl rfl | exact .inr rfl) hv.2.2.2.2 (fun least_7 hv => (xs_app (i := 1) (w := false) [.fz ((eM C) matroid_), .ow ((eLst eN) (s1.1 ++ [least_7])), .fz (eN s1.2), .fz ((eLst eN) some_5), .fz (eN least_7), .un] rfl rfl (ev_var (i := 4) rfl rfl) rfl hv (xs_setG 2 (fun v => Var.fz (eN v)) (s1.2 ^^^ least_7) (fun _ => True) (fun rest_8 => [.fz ((eM C) matroid_), .ow ((eLst eN) (s1.1 ++ [least_7])), .fz (eN rest_8), .fz ((eLst eN) some_5), .fz (eN least_7), .un]) (fun rest_8 => kL ((fun s1 : ((List Nat) × Nat) => [.fz ((eM C) matroid_), .ow ((eLst eN) s1.1), .fz (eN s1.2), .un, .un, .un]) (m_pc_part_masks_1 s1 least_7 rest_8))) (ev_xorN (i := s1.2) (j := least_7) (ev_var (i := 2) rfl rfl) (ev_var (i := 4) rfl rfl)) Sc.nd rfl (by first | exact .inl rfl | exact .inr rfl) trivial (fun rest_8 hv => (xs_un 4 (xs_un 3 (xs_nil rfl))))))))))))) trivial (fun s9 hv => (xs_one (x1_retMv 1 rfl rfl ⟨rfl, pk _⟩)))))
/-! ### pc_need_whole -/
abbrev s_pc_need_whole : Stmt := top 52
abbrev N_pc_need_whole : List Str := ["matroid"]
theorem sc_pc_need_whole : FnScope N_pc_need_whole ["matroid"] (defScope s_pc_need_whole) := ⟨rfl, rfl, rfl, by decide +kernel, rfl, by decide +kernel, by decide +kernel⟩
def m_pc_need_whole (matroid_ : Mat) : Unit := ()
def ok_pc_need_whole (matroid_ : Mat) : Prop := (ok_pc_part_masks matroid_) ∧ ((!decide ((m_pc_part_masks matroid_).length = 1)) = false)
def R_pc_need_whole (C : Addr) (ds : List D) (r : Var) : Prop := ∃ (matroid_ : Mat), ok_pc_need_whole matroid_ ∧ ds = [(eM C) matroid_] ∧ r = (fun v => Var.fz ((fun _ : Unit => D.non) v)) (m_pc_need_whole matroid_)
theorem c_pc_need_whole {C : Addr} {k : Nat} (F : FunD K "pc_need_whole" "pc_need_whole" (defArgs s_pc_need_whole) (defBody s_pc_need_whole) (defScope s_pc_need_whole) [] [] f fd) (hm : mg "pc_need_whole" = some (.ref f)) (m_len : mg "len" = none) (F_pc_part_masks : Fc P w K mg base "pc_part_masks" ["matroid"] k (FP (R_pc_part_masks C))) :
    Fc P w K mg base "pc_need_whole" ["matroid"] (k + 1) (FP (R_pc_need_whole C)) := by
  have Sc := sc_pc_need_whole
  refine fc_of F hm Sc (by decide) (fun _ _ _ _ _ _ us hl => match us, hl with | [_], _ => rfl) (FP.par (n := 1) fun ds r h => by obtain ⟨_, _, rfl, _⟩ := h; rfl) fun cdv A outer s H E hr as r as' hS => ?_
  obtain ⟨ds, e1, e2, h⟩ := hS
  have pk : ∀ ρ, ParOk as as' ρ := fun ρ => FP.ok e1 e2
  subst e1
  have hu := hr.units
  show XS _ _ _ (kF r (ParOk _ as'))
  generalize ParOk _ as' = PK at pk ⊢
  obtain ⟨matroid_, ho, e3, e4⟩ := h
  subst e3 e4
  show XS _ _ [.fz ((eM C) matroid_)] (kF ((fun v => Var.fz ((fun _ : Unit => D.non) v)) (m_pc_need_whole matroid_)) PK)
  exact (xs_ifN (et_cp (cp_neN (i := (m_pc_part_masks matroid_).length) (j := 1) (ev_as (ev_len (by rfl) m_len (ea_1 (ev_fr (ev_call F_pc_part_masks hr (by rfl) pass0 (ea_cons (ev_var (i := 0) rfl rfl) ea_nil) (FP.mk ⟨matroid_, ho.1, rfl, rfl⟩)))) rfl) (by rw [List.length_map])) (ev_natC (n := 1)))) (fun hc1 => Bool.noConfusion (hc1.symm.trans ho.2)) (fun _ => (xs_nil ⟨rfl, pk _⟩)))
/-! ### pc_split_masks -/
abbrev s_pc_split_masks : Stmt := top 53
abbrev N_pc_split_masks : List Str := ["matroid", "many", "found", "mask"]
theorem sc_pc_split_masks : FnScope N_pc_split_masks ["matroid"] (defScope s_pc_split_masks) := ⟨rfl, rfl, rfl, by decide +kernel, rfl, by decide +kernel, by decide +kernel⟩
def st_pc_split_masks_1 (matroid_ : Mat) (s1 : ((List Nat))) (x2 : Nat) : ((List Nat)) := (if ((decide (2 ≤ (m_ones_of x2)) && decide ((m_ones_of x2) ≤ (matroid_.ground.length - 2))) && (decide ((m_pc_link matroid_ x2) = (1 : Int)))) = true then (s1 ++ [x2]) else s1)
def sk_pc_split_masks_2 (matroid_ : Mat) (s1 : ((List Nat))) (x2 : Nat) : Prop := (ok_ones_of x2) ∧ (decide (2 ≤ (m_ones_of x2)) = true → (2 ≤ matroid_.ground.length)) ∧ ((decide (2 ≤ (m_ones_of x2)) && decide ((m_ones_of x2) ≤ (matroid_.ground.length - 2))) = true → (ok_pc_link matroid_ x2)) ∧ (((decide (2 ≤ (m_ones_of x2)) && decide ((m_ones_of x2) ≤ (matroid_.ground.length - 2))) && (decide ((m_pc_link matroid_ x2) = (1 : Int)))) = true → (s1.length ≤ 1000000))
def m_pc_split_masks_3 (s3 : ((List Nat))) : (List Nat) := s3
def m_pc_split_masks (matroid_ : Mat) : (List Nat) := (m_pc_split_masks_3 (List.foldl (fun s1 x2 => st_pc_split_masks_1 matroid_ s1 x2) ([] : List Nat) (odds matroid_.full)))
def ok_pc_split_masks (matroid_ : Mat) : Prop := (matroid_.full < 2 ^ 61) ∧ (okF (fun s1 x2 => sk_pc_split_masks_2 matroid_ s1 x2) (fun s1 x2 => st_pc_split_masks_1 matroid_ s1 x2) (odds matroid_.full) ([] : List Nat))
def R_pc_split_masks (C : Addr) (ds : List D) (r : Var) : Prop := ∃ (matroid_ : Mat), ok_pc_split_masks matroid_ ∧ ds = [(eM C) matroid_] ∧ r = (fun v => Var.ow ((eLst eN) v)) (m_pc_split_masks matroid_)
theorem c_pc_split_masks {C : Addr} {k : Nat} (F : FunD K "pc_split_masks" "pc_split_masks" (defArgs s_pc_split_masks) (defBody s_pc_split_masks) (defScope s_pc_split_masks) [] [] f fd) (hm : mg "pc_split_masks" = some (.ref f)) (m_len : mg "len" = none) (m_range : mg "range" = none) (cl_M : Cls K C) (na_ground : NoAttr K C "ground") (na_own_full : NoAttr K C "own_full") (F_ones_of : Fc P w K mg base "ones_of" ["mask"] k (FP (R_ones_of))) (F_pc_link : Fc P w K mg base "pc_link" ["matroid", "mask"] k (FP (R_pc_link C))) :
    Fc P w K mg base "pc_split_masks" ["matroid"] (k + 1) (FP (R_pc_split_masks C)) := by
  have Sc := sc_pc_split_masks
  refine fc_of F hm Sc (by decide) (fun _ _ _ _ _ _ us hl => match us, hl with | [_], _ => rfl) (FP.par (n := 1) fun ds r h => by obtain ⟨_, _, rfl, _⟩ := h; rfl) fun cdv A outer s H E hr as r as' hS => ?_
  obtain ⟨ds, e1, e2, h⟩ := hS
  have pk : ∀ ρ, ParOk as as' ρ := fun ρ => FP.ok e1 e2
  subst e1
  have hu := hr.units
  show XS _ _ _ (kF r (ParOk _ as'))
  generalize ParOk _ as' = PK at pk ⊢
  obtain ⟨matroid_, ho, e3, e4⟩ := h
  subst e3 e4
  show XS _ _ [.fz ((eM C) matroid_), .un, .un, .un] (kF ((fun v => Var.ow ((eLst eN) v)) (m_pc_split_masks matroid_)) PK)
  exact (xs_parO 1 2 [.fz ((eM C) matroid_), .fz (eN matroid_.ground.length), .ow ((eLst eN) ([] : List Nat)), .un] (ev_as (ev_len (by rfl) m_len (ea_1 (ev_fld (ev_var (i := 0) rfl rfl) cl_M na_ground rfl)) rfl) (by rw [List.length_map])) (ev_lstT eN ([] : List Nat) ea_nil) rfl Sc.nd rfl rfl (by decide) rfl rfl (xs_forPG (js := [3]) (odds matroid_.full) eN (fun s1 : ((List Nat)) => [.fz ((eM C) matroid_), .fz (eN matroid_.ground.length), .ow ((eLst eN) s1), .un]) (fun s1 x2 => st_pc_split_masks_1 matroid_ s1 x2) ([] : List Nat) (fun s1 x2 => sk_pc_split_masks_2 matroid_ s1 x2) (fun _ => True) (fun s3 => kF ((fun v => Var.ow ((eLst eN) v)) (m_pc_split_masks_3 s3)) PK) (ei_odds (n := matroid_.full) (by rfl) m_range (ea_cons (ev_int (i := 1)) (ea_cons (ev_fld (ev_var (i := 0) rfl rfl) cl_M na_own_full rfl) (ea_1 (ev_int (i := 2))))) ho.1) ho.2 (fun s1 x2 hx ho => (xg_name 3 Sc.nd rfl (by first | exact .inl rfl | exact .inr rfl) (xs_ifE ((ew_and (et_chn op_le op_le (ev_natC (n := 2)) (ev_call F_ones_of hr (by rfl) pass0 (ea_cons (ev_var (i := 3) rfl rfl) ea_nil) (FP.mk ⟨x2, ho.1, rfl, rfl⟩)) (fun hc => (ev_subN (i := matroid_.ground.length) (j := 2) (ev_var (i := 1) rfl rfl) (ev_natC (n := 2)) (ho.2.1 hc))) odLeN (fun _ => odLeN)) (fun hc0 => (ew_and1 (et_cp (cp_eqI (i := (m_pc_link matroid_ x2)) (j := (1 : Int)) (ev_call F_pc_link hr (by rfl) pass0 (ea_cons (ev_var (i := 0) rfl rfl) (ea_cons (ev_var (i := 3) rfl rfl) ea_nil)) (FP.mk ⟨matroid_, x2, (ho.2.2.1 hc0), rfl, rfl⟩)) (ev_natC (n := 1)))))))).t (fun hc4 => XS.ift (fun w => kL ((fun s1 : ((List Nat)) => [.fz ((eM C) matroid_), .fz (eN matroid_.ground.length), .ow ((eLst eN) s1), .un]) w)) hc4 (xs_app (i := 2) (w := false) [.fz ((eM C) matroid_), .fz (eN matroid_.ground.length), .ow ((eLst eN) (s1 ++ [x2])), .fz (eN x2)] rfl rfl (ev_var (i := 3) rfl rfl) rfl (ho.2.2.2 hc4) (xs_un 3 (xs_nil rfl)))) (fun hc4 => XS.iff (fun w => kL ((fun s1 : ((List Nat)) => [.fz ((eM C) matroid_), .fz (eN matroid_.ground.length), .ow ((eLst eN) s1), .un]) w)) hc4 (xs_un 3 (xs_nil rfl)))))) trivial (fun s3 hv => (xs_one (x1_retMv 2 rfl rfl ⟨rfl, pk _⟩)))))
/-! ### pc_cross -/
abbrev s_pc_cross : Stmt := top 54
abbrev N_pc_cross : List Str := ["one", "other", "full"]
theorem sc_pc_cross : FnScope N_pc_cross ["one", "other", "full"] (defScope s_pc_cross) := ⟨rfl, rfl, rfl, by decide +kernel, rfl, by decide +kernel, by decide +kernel⟩
def m_pc_cross (one_ : Nat) (other_ : Nat) (full_ : Nat) : Bool := ((decide (0 < (one_ &&& other_))) && ((decide (0 < (andn one_ other_))) && ((decide (0 < (andn other_ one_))) && (decide (0 < (andn full_ (one_ ||| other_)))))))
def ok_pc_cross (_one_ : Nat) (_other_ : Nat) (_full_ : Nat) : Prop := True
def R_pc_cross (ds : List D) (r : Var) : Prop := ∃ (one_ : Nat) (other_ : Nat) (full_ : Nat), ok_pc_cross one_ other_ full_ ∧ ds = [eN one_, eN other_, eN full_] ∧ r = (fun v => Var.fz (D.bl v)) (m_pc_cross one_ other_ full_)
theorem c_pc_cross {k : Nat} (F : FunD K "pc_cross" "pc_cross" (defArgs s_pc_cross) (defBody s_pc_cross) (defScope s_pc_cross) [] [] f fd) (hm : mg "pc_cross" = some (.ref f))  :
    Fc P w K mg base "pc_cross" ["one", "other", "full"] (k + 1) (FP (R_pc_cross)) := by
  have Sc := sc_pc_cross
  refine fc_of F hm Sc (by decide) (fun _ _ _ _ _ _ us hl => match us, hl with | [_, _, _], _ => rfl) (FP.par (n := 3) fun ds r h => by obtain ⟨_, _, _, _, rfl, _⟩ := h; rfl) fun cdv A outer s H E hr as r as' hS => ?_
  obtain ⟨ds, e1, e2, h⟩ := hS
  have pk : ∀ ρ, ParOk as as' ρ := fun ρ => FP.ok e1 e2
  subst e1
  have hu := hr.units
  show XS _ _ _ (kF r (ParOk _ as'))
  generalize ParOk _ as' = PK at pk ⊢
  obtain ⟨one_, other_, full_, ho, e3, e4⟩ := h
  subst e3 e4
  show XS _ _ [.fz (eN one_), .fz (eN other_), .fz (eN full_)] (kF ((fun v => Var.fz (D.bl v)) (m_pc_cross one_ other_ full_)) PK)
  exact (xs_one (x1_ret (ev_andV (ev_cp (cp_gtN (i := (one_ &&& other_)) (j := 0) (ev_andN (i := one_) (j := other_) (ev_var (i := 0) rfl rfl) (ev_var (i := 1) rfl rfl)) (ev_natC (n := 0)))) (fun hc0 => (ev_andV (ev_cp (cp_gtN (i := (andn one_ other_)) (j := 0) (ev_andn (n := one_) (m := other_) (ev_var (i := 0) rfl rfl) (ev_var (i := 1) rfl rfl)) (ev_natC (n := 0)))) (fun hc1 => (ev_andV (ev_cp (cp_gtN (i := (andn other_ one_)) (j := 0) (ev_andn (n := other_) (m := one_) (ev_var (i := 1) rfl rfl) (ev_var (i := 0) rfl rfl)) (ev_natC (n := 0)))) (fun hc2 => (ev_one (ev_cp (cp_gtN (i := (andn full_ (one_ ||| other_))) (j := 0) (ev_andn (n := full_) (m := (one_ ||| other_)) (ev_var (i := 2) rfl rfl) (ev_orN (i := one_) (j := other_) (ev_var (i := 0) rfl rfl) (ev_var (i := 1) rfl rfl))) (ev_natC (n := 0))))))))))) ⟨rfl, pk _⟩))
/-! ### pc_good_masks -/
abbrev s_pc_good_masks : Stmt := top 55
abbrev N_pc_good_masks : List Str := ["matroid", "some", "one", "other"]
theorem sc_pc_good_masks : FnScope N_pc_good_masks ["matroid"] (defScope s_pc_good_masks) := ⟨rfl, rfl, rfl, by decide +kernel, rfl, by decide +kernel, by decide +kernel⟩
def m_pc_good_masks_1 (matroid_ : Mat) (some_1 : (List Nat)) : (List Nat) := ((some_1).filter (fun x2 => (!(((some_1).map (fun x3 => (m_pc_cross x2 x3 matroid_.full))).any id)))).map (fun x2 => x2)
def ok_pc_good_masks_2 (matroid_ : Mat) (some_1 : (List Nat)) : Prop := ((some_1).length ≤ 1000000) ∧ (∀ x2 ∈ some_1, ((some_1).length ≤ 1000000) ∧ (∀ x3 ∈ some_1, (ok_pc_cross x2 x3 matroid_.full)))
def m_pc_good_masks (matroid_ : Mat) : (List Nat) := (m_pc_good_masks_1 matroid_ (m_pc_split_masks matroid_))
def ok_pc_good_masks (matroid_ : Mat) : Prop := (ok_pc_split_masks matroid_) ∧ (ok_pc_good_masks_2 matroid_ (m_pc_split_masks matroid_))
def R_pc_good_masks (C : Addr) (ds : List D) (r : Var) : Prop := ∃ (matroid_ : Mat), ok_pc_good_masks matroid_ ∧ ds = [(eM C) matroid_] ∧ r = (fun v => Var.ow ((eLst eN) v)) (m_pc_good_masks matroid_)
theorem c_pc_good_masks {C : Addr} {k : Nat} (F : FunD K "pc_good_masks" "pc_good_masks" (defArgs s_pc_good_masks) (defBody s_pc_good_masks) (defScope s_pc_good_masks) [] [] f fd) (hm : mg "pc_good_masks" = some (.ref f)) (m_any : mg "any" = none) (cl_M : Cls K C) (na_own_full : NoAttr K C "own_full") (F_pc_split_masks : Fc P w K mg base "pc_split_masks" ["matroid"] k (FP (R_pc_split_masks C))) (F_pc_cross : Fc P w K mg base "pc_cross" ["one", "other", "full"] k (FP (R_pc_cross))) :
    Fc P w K mg base "pc_good_masks" ["matroid"] (k + 1) (FP (R_pc_good_masks C)) := by
  have Sc := sc_pc_good_masks
  refine fc_of F hm Sc (by decide) (fun _ _ _ _ _ _ us hl => match us, hl with | [_], _ => rfl) (FP.par (n := 1) fun ds r h => by obtain ⟨_, _, rfl, _⟩ := h; rfl) fun cdv A outer s H E hr as r as' hS => ?_
  obtain ⟨ds, e1, e2, h⟩ := hS
  have pk : ∀ ρ, ParOk as as' ρ := fun ρ => FP.ok e1 e2
  subst e1
  have hu := hr.units
  show XS _ _ _ (kF r (ParOk _ as'))
  generalize ParOk _ as' = PK at pk ⊢
  obtain ⟨matroid_, ho, e3, e4⟩ := h
  subst e3 e4
  show XS _ _ [.fz ((eM C) matroid_), .un, .un, .un] (kF ((fun v => Var.ow ((eLst eN) v)) (m_pc_good_masks matroid_)) PK)
  exact (xs_setG 1 (fun v => Var.fz ((eLst eN) v)) (m_pc_split_masks matroid_) (fun some_1 => ok_pc_good_masks_2 matroid_ some_1) (fun some_1 => [.fz ((eM C) matroid_), .fz ((eLst eN) some_1), .un, .un]) (fun some_1 => kF ((fun v => Var.ow ((eLst eN) v)) (m_pc_good_masks_1 matroid_ some_1)) PK) (ev_fr (ev_call F_pc_split_masks hr (by rfl) pass0 (ea_cons (ev_var (i := 0) rfl rfl) ea_nil) (FP.mk ⟨matroid_, ho.1, rfl, rfl⟩))) Sc.nd rfl (by first | exact .inl rfl | exact .inr rfl) ho.2 (fun some_1 hv => (xs_one (x1_ret (ev_lcF (own := [("one", 2)]) (js := [2]) (some_1) eN eN (fun x2 => [.fz ((eM C) matroid_), .fz ((eLst eN) some_1), .fz (eN x2), .un]) (fun x2 => (!(((some_1).map (fun x3 => (m_pc_cross x2 x3 matroid_.full))).any id))) (fun x2 => x2) rfl Sc.nd (ei_list (ev_var (i := 1) rfl rfl)) (blkOk_by (own := [("one", 2)]) (by kernel_rfl)) (by decide) (fun _ _ => rfl) (fun x2 _ _ _ _ _ _ => (xg_name 2 Sc.nd rfl (by first | exact .inl rfl | exact .inr rfl) rfl)) (fun x2 hx2 _ _ _ _ _ => ets_one (et_not (et_val (ev_any (by rfl) m_any rfl (ea_1 (ev_fr (ev_lcM (own := [("other", 3)]) (js := [3]) (some_1) eN D.bl (fun x3 => [.fz ((eM C) matroid_), .fz ((eLst eN) some_1), .fz (eN x2), .fz (eN x3)]) (fun x3 => (m_pc_cross x2 x3 matroid_.full)) rfl Sc.nd (ei_list (ev_var (i := 1) rfl rfl)) (blkOk_by (own := [("other", 3)]) (by kernel_rfl)) (by decide) (fun _ _ => rfl) (fun x3 _ _ _ _ _ _ => (xg_name 3 Sc.nd rfl (by first | exact .inl rfl | exact .inr rfl) rfl)) (fun x3 hx3 _ _ _ _ _ => (ev_call F_pc_cross hr (by rfl) pass0 (ea_cons (ev_var (i := 2) rfl rfl) (ea_cons (ev_var (i := 3) rfl rfl) (ea_cons (ev_fld (ev_var (i := 0) rfl rfl) cl_M na_own_full rfl) ea_nil))) (FP.mk ⟨x2, x3, matroid_.full, ((hv.2 x2 hx2).2 x3 hx3), rfl, rfl⟩))) (Nat.lt_of_le_of_lt (hv.2 x2 hx2).1 (by decide))))))))) (fun x2 hx2 hqx2 _ _ _ _ _ => (ev_var (i := 2) rfl rfl)) (Nat.lt_of_le_of_lt hv.1 (by decide))) ⟨rfl, pk _⟩))))
/-! ### splits_of -/
abbrev s_splits_of : Stmt := top 56
abbrev N_splits_of : List Str := ["matroid"]
theorem sc_splits_of : FnScope N_splits_of ["matroid"] (defScope s_splits_of) := ⟨rfl, rfl, rfl, by decide +kernel, rfl, by decide +kernel, by decide +kernel⟩
def m_splits_of (matroid_ : Mat) : (List (List Nat)) := (m_sets_from matroid_.ground (m_pc_split_masks matroid_))
def ok_splits_of (matroid_ : Mat) : Prop := (ok_need_matroid matroid_) ∧ (ok_pc_need_whole matroid_) ∧ (ok_pc_split_masks matroid_) ∧ (ok_sets_from matroid_.ground (m_pc_split_masks matroid_))
def R_splits_of (C : Addr) (ds : List D) (r : Var) : Prop := ∃ (matroid_ : Mat), ok_splits_of matroid_ ∧ ds = [(eM C) matroid_] ∧ r = (fun v => Var.fz ((eTup (eTup eN)) v)) (m_splits_of matroid_)
theorem f_splits_of {C : Addr} {k : Nat} (F : FunD K "splits_of" "splits_of" (defArgs s_splits_of) (defBody s_splits_of) (defScope s_splits_of) [] [] f fd) (cl_M : Cls K C) (na_ground : NoAttr K C "ground") (F_need_matroid : Fc P w K mg base "need_matroid" ["value"] k (FP (R_need_matroid C))) (F_pc_need_whole : Fc P w K mg base "pc_need_whole" ["matroid"] k (FP (R_pc_need_whole C))) (F_pc_split_masks : Fc P w K mg base "pc_split_masks" ["matroid"] k (FP (R_pc_split_masks C))) (F_sets_from : Fc P w K mg base "sets_from" ["ground", "masks"] k (FP (R_sets_from))) :
    FnOk P w K mg base CX0 (k + 1) f fd ["matroid"] (spF K (FP (R_splits_of C))) := by
  have Sc := sc_splits_of
  refine fnok_of F Sc (by decide) (FP.par (n := 1) fun ds r h => by obtain ⟨_, _, rfl, _⟩ := h; rfl) fun cdv A outer s H E hr as r as' hS => ?_
  obtain ⟨ds, e1, e2, h⟩ := hS
  have pk : ∀ ρ, ParOk as as' ρ := fun ρ => FP.ok e1 e2
  subst e1
  have hu := hr.units
  show XS _ _ _ (kF r (ParOk _ as'))
  generalize ParOk _ as' = PK at pk ⊢
  obtain ⟨matroid_, ho, e3, e4⟩ := h
  subst e3 e4
  show XS _ _ [.fz ((eM C) matroid_)] (kF ((fun v => Var.fz ((eTup (eTup eN)) v)) (m_splits_of matroid_)) PK)
  exact (xs_expr [.fz ((eM C) matroid_)] (ev_call F_need_matroid hr (by rfl) pass0 (ea_cons (ev_var (i := 0) rfl rfl) ea_nil) (FP.mk ⟨matroid_, ho.1, rfl, rfl⟩)) (xs_expr [.fz ((eM C) matroid_)] (ev_call F_pc_need_whole hr (by rfl) pass0 (ea_cons (ev_var (i := 0) rfl rfl) ea_nil) (FP.mk ⟨matroid_, ho.2.1, rfl, rfl⟩)) (xs_one (x1_ret (ev_call F_sets_from hr (by rfl) pass0 (ea_cons (ev_fld (ev_var (i := 0) rfl rfl) cl_M na_ground rfl) (ea_cons (ev_fr (ev_call F_pc_split_masks hr (by rfl) pass0 (ea_cons (ev_var (i := 0) rfl rfl) ea_nil) (FP.mk ⟨matroid_, ho.2.2.1, rfl, rfl⟩))) ea_nil)) (FP.mk ⟨matroid_.ground, (m_pc_split_masks matroid_), ho.2.2.2, rfl, rfl⟩)) ⟨rfl, pk _⟩))))
theorem c_splits_of {C : Addr} {k : Nat} (F : FunD K "splits_of" "splits_of" (defArgs s_splits_of) (defBody s_splits_of) (defScope s_splits_of) [] [] f fd) (hm : mg "splits_of" = some (.ref f)) (cl_M : Cls K C) (na_ground : NoAttr K C "ground") (F_need_matroid : Fc P w K mg base "need_matroid" ["value"] k (FP (R_need_matroid C))) (F_pc_need_whole : Fc P w K mg base "pc_need_whole" ["matroid"] k (FP (R_pc_need_whole C))) (F_pc_split_masks : Fc P w K mg base "pc_split_masks" ["matroid"] k (FP (R_pc_split_masks C))) (F_sets_from : Fc P w K mg base "sets_from" ["ground", "masks"] k (FP (R_sets_from))) :
    Fc P w K mg base "splits_of" ["matroid"] (k + 1) (FP (R_splits_of C)) := ⟨f, fd, f_splits_of F cl_M na_ground F_need_matroid F_pc_need_whole F_pc_split_masks F_sets_from, hm, F.kp, F.bindsN (fun _ _ _ _ _ _ us hl => match us, hl with | [_], _ => rfl)⟩
theorem k_splits_of {C : Addr} {k : Nat} (F : FunD K "splits_of" "splits_of" (defArgs s_splits_of) (defBody s_splits_of) (defScope s_splits_of) [] [] f fd) (hm : mg "splits_of" = some (.ref f)) (cl_M : Cls K C) (na_ground : NoAttr K C "ground") (F_need_matroid : Fc P w K mg base "need_matroid" ["value"] k (FP (R_need_matroid C))) (F_pc_need_whole : Fc P w K mg base "pc_need_whole" ["matroid"] k (FP (R_pc_need_whole C))) (F_pc_split_masks : Fc P w K mg base "pc_split_masks" ["matroid"] k (FP (R_pc_split_masks C))) (F_sets_from : Fc P w K mg base "sets_from" ["ground", "masks"] k (FP (R_sets_from))) :
    Fk P w K mg base "splits_of" "matroid" (k + 1) (FP (R_splits_of C)) := ⟨f, fd, (f_splits_of F cl_M na_ground F_need_matroid F_pc_need_whole F_pc_split_masks F_sets_from), hm, F.kp, kw1 F fun _ _ _ _ _ _ _ => rfl⟩
/-! ### good_splits_of -/
abbrev s_good_splits_of : Stmt := top 57
abbrev N_good_splits_of : List Str := ["matroid"]
theorem sc_good_splits_of : FnScope N_good_splits_of ["matroid"] (defScope s_good_splits_of) := ⟨rfl, rfl, rfl, by decide +kernel, rfl, by decide +kernel, by decide +kernel⟩
def m_good_splits_of (matroid_ : Mat) : (List (List Nat)) := (m_sets_from matroid_.ground (m_pc_good_masks matroid_))
def ok_good_splits_of (matroid_ : Mat) : Prop := (ok_need_matroid matroid_) ∧ (ok_pc_need_whole matroid_) ∧ (ok_pc_good_masks matroid_) ∧ (ok_sets_from matroid_.ground (m_pc_good_masks matroid_))
def R_good_splits_of (C : Addr) (ds : List D) (r : Var) : Prop := ∃ (matroid_ : Mat), ok_good_splits_of matroid_ ∧ ds = [(eM C) matroid_] ∧ r = (fun v => Var.fz ((eTup (eTup eN)) v)) (m_good_splits_of matroid_)
theorem f_good_splits_of {C : Addr} {k : Nat} (F : FunD K "good_splits_of" "good_splits_of" (defArgs s_good_splits_of) (defBody s_good_splits_of) (defScope s_good_splits_of) [] [] f fd) (cl_M : Cls K C) (na_ground : NoAttr K C "ground") (F_need_matroid : Fc P w K mg base "need_matroid" ["value"] k (FP (R_need_matroid C))) (F_pc_need_whole : Fc P w K mg base "pc_need_whole" ["matroid"] k (FP (R_pc_need_whole C))) (F_pc_good_masks : Fc P w K mg base "pc_good_masks" ["matroid"] k (FP (R_pc_good_masks C))) (F_sets_from : Fc P w K mg base "sets_from" ["ground", "masks"] k (FP (R_sets_from))) :
    FnOk P w K mg base CX0 (k + 1) f fd ["matroid"] (spF K (FP (R_good_splits_of C))) := by
  have Sc := sc_good_splits_of
  refine fnok_of F Sc (by decide) (FP.par (n := 1) fun ds r h => by obtain ⟨_, _, rfl, _⟩ := h; rfl) fun cdv A outer s H E hr as r as' hS => ?_
  obtain ⟨ds, e1, e2, h⟩ := hS
  have pk : ∀ ρ, ParOk as as' ρ := fun ρ => FP.ok e1 e2
  subst e1
  have hu := hr.units
  show XS _ _ _ (kF r (ParOk _ as'))
  generalize ParOk _ as' = PK at pk ⊢
  obtain ⟨matroid_, ho, e3, e4⟩ := h
  subst e3 e4
  show XS _ _ [.fz ((eM C) matroid_)] (kF ((fun v => Var.fz ((eTup (eTup eN)) v)) (m_good_splits_of matroid_)) PK)
  exact (xs_expr [.fz ((eM C) matroid_)] (ev_call F_need_matroid hr (by rfl) pass0 (ea_cons (ev_var (i := 0) rfl rfl) ea_nil) (FP.mk ⟨matroid_, ho.1, rfl, rfl⟩)) (xs_expr [.fz ((eM C) matroid_)] (ev_call F_pc_need_whole hr (by rfl) pass0 (ea_cons (ev_var (i := 0) rfl rfl) ea_nil) (FP.mk ⟨matroid_, ho.2.1, rfl, rfl⟩)) (xs_one (x1_ret (ev_call F_sets_from hr (by rfl) pass0 (ea_cons (ev_fld (ev_var (i := 0) rfl rfl) cl_M na_ground rfl) (ea_cons (ev_fr (ev_call F_pc_good_masks hr (by rfl) pass0 (ea_cons (ev_var (i := 0) rfl rfl) ea_nil) (FP.mk ⟨matroid_, ho.2.2.1, rfl, rfl⟩))) ea_nil)) (FP.mk ⟨matroid_.ground, (m_pc_good_masks matroid_), ho.2.2.2, rfl, rfl⟩)) ⟨rfl, pk _⟩))))
theorem c_good_splits_of {C : Addr} {k : Nat} (F : FunD K "good_splits_of" "good_splits_of" (defArgs s_good_splits_of) (defBody s_good_splits_of) (defScope s_good_splits_of) [] [] f fd) (hm : mg "good_splits_of" = some (.ref f)) (cl_M : Cls K C) (na_ground : NoAttr K C "ground") (F_need_matroid : Fc P w K mg base "need_matroid" ["value"] k (FP (R_need_matroid C))) (F_pc_need_whole : Fc P w K mg base "pc_need_whole" ["matroid"] k (FP (R_pc_need_whole C))) (F_pc_good_masks : Fc P w K mg base "pc_good_masks" ["matroid"] k (FP (R_pc_good_masks C))) (F_sets_from : Fc P w K mg base "sets_from" ["ground", "masks"] k (FP (R_sets_from))) :
    Fc P w K mg base "good_splits_of" ["matroid"] (k + 1) (FP (R_good_splits_of C)) := ⟨f, fd, f_good_splits_of F cl_M na_ground F_need_matroid F_pc_need_whole F_pc_good_masks F_sets_from, hm, F.kp, F.bindsN (fun _ _ _ _ _ _ us hl => match us, hl with | [_], _ => rfl)⟩
theorem k_good_splits_of {C : Addr} {k : Nat} (F : FunD K "good_splits_of" "good_splits_of" (defArgs s_good_splits_of) (defBody s_good_splits_of) (defScope s_good_splits_of) [] [] f fd) (hm : mg "good_splits_of" = some (.ref f)) (cl_M : Cls K C) (na_ground : NoAttr K C "ground") (F_need_matroid : Fc P w K mg base "need_matroid" ["value"] k (FP (R_need_matroid C))) (F_pc_need_whole : Fc P w K mg base "pc_need_whole" ["matroid"] k (FP (R_pc_need_whole C))) (F_pc_good_masks : Fc P w K mg base "pc_good_masks" ["matroid"] k (FP (R_pc_good_masks C))) (F_sets_from : Fc P w K mg base "sets_from" ["ground", "masks"] k (FP (R_sets_from))) :
    Fk P w K mg base "good_splits_of" "matroid" (k + 1) (FP (R_good_splits_of C)) := ⟨f, fd, (f_good_splits_of F cl_M na_ground F_need_matroid F_pc_need_whole F_pc_good_masks F_sets_from), hm, F.kp, kw1 F fun _ _ _ _ _ _ _ => rfl⟩
end
end K66

namespace K66
open PySem PySem.Spec PyProof.Rows L2 DL
abbrev eSq {α : Type} (enc : α → D) (l : List α) : D := .seq (l.map enc)
section
variable {P : Program} {w : World} {K : PySem.W.Frag} {mg : Str → Option Value} {base : Heap} {f : Addr} {fd : FuncData}
/-! ### law_source -/
abbrev s_law_source : Stmt := top 59
abbrev N_law_source : List Str := ["script", "k", "cell"]
theorem sc_law_source : FnScope N_law_source ["script", "k"] (defScope s_law_source) := ⟨rfl, rfl, rfl, by decide +kernel, rfl, by decide +kernel, by decide +kernel⟩
def m_law_source_1 (k_ : Nat) (cell_1 : Int) : (List Int) := ([cell_1, (((3 * k_) : Nat) : Int), (if (decide ((1000000000000000000 : Int) ≤ cell_1)) = true then (cell_1 / (1000000000000000000 : Int)) else (0 : Int))] : List Int)
def ok_law_source_2 (cell_1 : Int) : Prop := (3 < 2 ^ 64)
def m_law_source (script_ : (List Int)) (k_ : Nat) : (List Int) := (m_law_source_1 k_ (if (!decide (script_ = ([] : List Int))) = true then (nth script_ (k_ % script_.length)) else (1 : Int)))
def ok_law_source (script_ : (List Int)) (k_ : Nat) : Prop := ((!decide (script_ = ([] : List Int))) = true → (0 < script_.length) ∧ ((k_ % script_.length) < script_.length)) ∧ (ok_law_source_2 (if (!decide (script_ = ([] : List Int))) = true then (nth script_ (k_ % script_.length)) else (1 : Int)))
def R_law_source (ds : List D) (r : Var) : Prop := ∃ (script_ : (List Int)) (k_ : Nat), ok_law_source script_ k_ ∧ ds = [(eSq D.int) script_, eN k_] ∧ r = (fun v => Var.ow ((eLst D.int) v)) (m_law_source script_ k_)
theorem c_law_source {k : Nat} (F : FunD K "_law_source" "_law_source" (defArgs s_law_source) (defBody s_law_source) (defScope s_law_source) [] [] f fd) (hm : mg "_law_source" = some (.ref f)) (m_len : mg "len" = none) :
    Fc P w K mg base "_law_source" ["script", "k"] (k + 1) (FP (R_law_source)) := by
  have Sc := sc_law_source
  refine fc_of F hm Sc (by decide) (fun _ _ _ _ _ _ us hl => match us, hl with | [_, _], _ => rfl) (FP.par (n := 2) fun ds r h => by obtain ⟨_, _, _, rfl, _⟩ := h; rfl) fun cdv A outer s H E hr as r as' hS => ?_
  obtain ⟨ds, e1, e2, h⟩ := hS
  have pk : ∀ ρ, ParOk as as' ρ := fun ρ => FP.ok e1 e2
  subst e1
  have hu := hr.units
  show XS _ _ _ (kF r (ParOk _ as'))
  generalize ParOk _ as' = PK at pk ⊢
  obtain ⟨script_, k_, ho, e3, e4⟩ := h
  subst e3 e4
  show XS _ _ [.fz ((eSq D.int) script_), .fz (eN k_), .un] (kF ((fun v => Var.ow ((eLst D.int) v)) (m_law_source script_ k_)) PK)
  exact (xs_setG 2 (fun v => Var.fz (D.int v)) (if (!decide (script_ = ([] : List Int))) = true then (nth script_ (k_ % script_.length)) else (1 : Int)) (fun cell_1 => ok_law_source_2 cell_1) (fun cell_1 => [.fz ((eSq D.int) script_), .fz (eN k_), .fz (D.int cell_1)]) (fun cell_1 => kF ((fun v => Var.ow ((eLst D.int) v)) (m_law_source_1 k_ cell_1)) PK) (ev_ifT (enc := fun v => Var.fz (D.int v)) (et_cp (cp_neSq (DatE.of Dat.int) (by decide) hu (ev_var (i := 0) rfl rfl) (ev_fr (ev_lstT D.int ([] : List Int) ea_nil)))) (fun hc => (ev_ixSN (enc := D.int) (l := script_) (i := (k_ % script_.length)) (ev_var (i := 0) rfl rfl) (ev_modN (i := k_) (j := script_.length) (ev_var (i := 1) rfl rfl) (ev_as (ev_len (by rfl) m_len (ea_1 (ev_var (i := 0) rfl rfl)) rfl) (by rw [List.length_map])) (ho.1 hc).1) (ho.1 hc).2)) (fun hc => ev_int)) Sc.nd rfl (by first | exact .inl rfl | exact .inr rfl) ho.2 (fun cell_1 hv => (xs_one (x1_ret (ev_lstT D.int ([cell_1, (((3 * k_) : Nat) : Int), (if (decide ((1000000000000000000 : Int) ≤ cell_1)) = true then (cell_1 / (1000000000000000000 : Int)) else (0 : Int))] : List Int) (ea_cons (ev_var (i := 2) rfl rfl) (ea_cons (ev_mulN (i := 3) (j := k_) (ev_natC (n := 3)) (ev_var (i := 1) rfl rfl) hv) (ea_cons (ev_ifT (enc := fun v => Var.fz (D.int v)) (et_cp (cp_ge (i := cell_1) (j := (1000000000000000000 : Int)) (ev_var (i := 2) rfl rfl) (ev_as (ev_pow (i := 10) (j := 18) ev_int ev_int ⟨by omega, by omega, by omega⟩) (congrArg (fun i => Var.fz (D.int i)) (by decide +kernel))))) (fun hc => (ev_fdivW (ev_var (i := 2) rfl rfl) (ev_as (ev_pow (i := 10) (j := 18) ev_int ev_int ⟨by omega, by omega, by omega⟩) (congrArg (fun i => Var.fz (D.int i)) (by decide +kernel))) (by decide +kernel))) (fun hc => ev_int)) ea_nil)))) ⟨rfl, pk _⟩))))
/-! ### law_next -/
abbrev s_law_next : Stmt := top 60
abbrev N_law_next : List Str := ["source", "many", "found", "primes", "prime", "mixed"]
theorem sc_law_next : FnScope N_law_next ["source", "many"] (defScope s_law_next) := ⟨rfl, rfl, rfl, by decide +kernel, rfl, by decide +kernel, by decide +kernel⟩
def m_law_next_1 (source_ : (List Int)) (many_ : Nat) (found_2 : Nat) : (Nat × (List Int)) := (found_2, (source_.set 2 ((nth source_ 2) / (many_ : Int))))
def ok_law_next_2 (source_ : (List Int)) (many_ : Nat) (found_2 : Nat) : Prop := (2 < source_.length) ∧ (CDiv (nth source_ 2) (many_ : Int)) ∧ (2 < source_.length)
def m_law_next_3 (source_ : (List Int)) (many_ : Nat) (mixed_5 : Int) : (Nat × (List Int)) := (((mixed_5 / (13 : Int)) % (many_ : Int)).toNat, (source_.set 1 ((nth source_ 1) + (1 : Int))))
def ok_law_next_4 (many_ : Nat) (mixed_5 : Int) : Prop := (CDiv mixed_5 (13 : Int)) ∧ (0 < many_)
def m_law_next_5 (source_ : (List Int)) (many_ : Nat) (prime_4 : Nat) : (Nat × (List Int)) := (m_law_next_3 source_ many_ ((((((nth (source_.set 1 ((nth source_ 1) + (1 : Int))) 0) % (prime_4 : Int)) + ((7919 : Int) * (nth (source_.set 1 ((nth source_ 1) + (1 : Int))) 1))) + (1 : Int)) ^ 5) % (prime_4 : Int)))
def ok_law_next_6 (source_ : (List Int)) (many_ : Nat) (prime_4 : Nat) : Prop := (0 < (source_.set 1 ((nth source_ 1) + (1 : Int))).length) ∧ (0 < (prime_4 : Int)) ∧ (1 < (source_.set 1 ((nth source_ 1) + (1 : Int))).length) ∧ (CMul (7919 : Int) (nth (source_.set 1 ((nth source_ 1) + (1 : Int))) 1)) ∧ (CPow ((((nth (source_.set 1 ((nth source_ 1) + (1 : Int))) 0) % (prime_4 : Int)) + ((7919 : Int) * (nth (source_.set 1 ((nth source_ 1) + (1 : Int))) 1))) + (1 : Int)) 5) ∧ (0 < (prime_4 : Int)) ∧ (ok_law_next_4 many_ ((((((nth (source_.set 1 ((nth source_ 1) + (1 : Int))) 0) % (prime_4 : Int)) + ((7919 : Int) * (nth (source_.set 1 ((nth source_ 1) + (1 : Int))) 1))) + (1 : Int)) ^ 5) % (prime_4 : Int)))
def m_law_next_7 (source_ : (List Int)) (many_ : Nat) (primes_3 : (List Nat)) : (Nat × (List Int)) := (m_law_next_5 source_ many_ (nth (primes_3 ++ ([2147483489, 2147483477, 2147483423] : List Nat)) (((nth (source_.set 1 ((nth source_ 1) + (1 : Int))) 1) % (11 : Int)).toNat)))
def ok_law_next_8 (source_ : (List Int)) (many_ : Nat) (primes_3 : (List Nat)) : Prop := (primes_3.length + ([2147483489, 2147483477, 2147483423] : List Nat).length ≤ 1000000) ∧ (1 < (source_.set 1 ((nth source_ 1) + (1 : Int))).length) ∧ (0 < 11) ∧ (((nth (source_.set 1 ((nth source_ 1) + (1 : Int))) 1) % (11 : Int)).toNat < (primes_3 ++ ([2147483489, 2147483477, 2147483423] : List Nat)).length) ∧ (ok_law_next_6 source_ many_ (nth (primes_3 ++ ([2147483489, 2147483477, 2147483423] : List Nat)) (((nth (source_.set 1 ((nth source_ 1) + (1 : Int))) 1) % (11 : Int)).toNat)))
def m_law_next (source_ : (List Int)) (many_ : Nat) : (Nat × (List Int)) := (if (decide ((0 : Int) < (nth source_ 2))) = true then (m_law_next_1 source_ many_ (((nth source_ 2) % (many_ : Int)).toNat)) else (m_law_next_7 source_ many_ ([2147483647, 2147483629, 2147483587, 2147483579, 2147483563, 2147483549, 2147483543, 2147483497] : List Nat)))
def ok_law_next (source_ : (List Int)) (many_ : Nat) : Prop := (2 < source_.length) ∧ ((decide ((0 : Int) < (nth source_ 2))) = true → (2 < source_.length) ∧ (0 < many_) ∧ (ok_law_next_2 source_ many_ (((nth source_ 2) % (many_ : Int)).toNat))) ∧ ((decide ((0 : Int) < (nth source_ 2))) = false → (1 < source_.length) ∧ (1 < source_.length) ∧ (ok_law_next_8 source_ many_ ([2147483647, 2147483629, 2147483587, 2147483579, 2147483563, 2147483549, 2147483543, 2147483497] : List Nat)))
def R_law_next (d0 : D) (ds : List D) (r : Var) (d1 : D) : Prop := ∃ (source_ : (List Int)) (many_ : Nat), ok_law_next source_ many_ ∧ d0 = (eLst D.int) source_ ∧ ds = [eN many_] ∧ r = (fun v => Var.fz (eN v)) (m_law_next source_ many_).1 ∧ d1 = (eLst D.int) (m_law_next source_ many_).2
theorem c_law_next {k : Nat} (F : FunD K "_law_next" "_law_next" (defArgs s_law_next) (defBody s_law_next) (defScope s_law_next) [] [] f fd) (hm : mg "_law_next" = some (.ref f)) (m_int : mg "int" = none) :
    Fc P w K mg base "_law_next" ["source", "many"] (k + 1) (FI (R_law_next)) := by
  have Sc := sc_law_next
  refine fc_of F hm Sc (by decide) (fun _ _ _ _ _ _ us hl => match us, hl with | [_, _], _ => rfl) (FI.par (n := 2) fun d0 ds r d1 h => by obtain ⟨_, _, _, _, rfl, _, _⟩ := h; rfl) fun cdv A outer s H E hr as r as' hS => ?_
  obtain ⟨d0, ds, d1, h, e1, e2⟩ := hS
  subst e1 e2
  have hu := hr.units
  obtain ⟨source_, many_, ho, e3, e4, e5, e6⟩ := h
  subst e3 e4 e5 e6
  refine XS.ofI (enc := (fun v => Var.fz (eN v))) (encS := (eLst D.int)) (v := m_law_next source_ many_) ?_
  show XS _ _ [.io ((eLst D.int) source_), .fz (eN many_), .un, .un, .un, .un] (kI (fun v => Var.fz (eN v)) (eLst D.int) (m_law_next source_ many_))
  exact (xs_ifN (et_peek (et_cp (cp_gt (i := (nth source_ 2)) (j := (0 : Int)) (ev_ixLN (enc := D.int) (l := source_) (i := 2) (ev_var (i := 0) rfl rfl) (ev_natC (n := 2)) ho.1) (ev_natC (n := 0))))) (fun hc1 => XS.ift (fun w => noNx (kI (fun v => Var.fz (eN v)) (eLst D.int) w)) hc1 (xs_setG 2 (fun v => Var.fz (eN v)) (((nth source_ 2) % (many_ : Int)).toNat) (fun found_2 => ok_law_next_2 source_ many_ found_2) (fun found_2 => [.io ((eLst D.int) source_), .fz (eN many_), .fz (eN found_2), .un, .un, .un]) (fun found_2 => noNx (kI (fun v => Var.fz (eN v)) (eLst D.int) (m_law_next_1 source_ many_ found_2))) (ev_peek (ev_modIN (ev_intI (by rfl) m_int (ea_1 (ev_ixLN (enc := D.int) (l := source_) (i := 2) (ev_var (i := 0) rfl rfl) (ev_natC (n := 2)) (ho.2.1 hc1).1))) (ev_var (i := 1) rfl rfl) (ho.2.1 hc1).2.1) rfl) Sc.nd rfl (by first | exact .inl rfl | exact .inr rfl) (ho.2.1 hc1).2.2 (fun found_2 hv => (xs_item (i := 0) (w := true) [.io ((eLst D.int) (source_.set 2 ((nth source_ 2) / (many_ : Int)))), .fz (eN many_), .fz (eN found_2), .un, .un, .un] (ev_peek (ev_fdiv (ev_ixLN (enc := D.int) (l := source_) (i := 2) (ev_var (i := 0) rfl rfl) (ev_natC (n := 2)) hv.1) (ev_var (i := 1) rfl rfl) hv.2.1) rfl) rfl rfl (ev_natC (n := 2)) rfl hv.2.2 (xs_one (x1_ret (ev_var (i := 2) rfl rfl) ⟨rfl, rfl⟩)))))) (fun hc1 => XS.iff (fun w => kI (fun v => Var.fz (eN v)) (eLst D.int) w) hc1 (xs_item (i := 0) (w := true) [.io ((eLst D.int) (source_.set 1 ((nth source_ 1) + (1 : Int)))), .fz (eN many_), .un, .un, .un, .un] (ev_peek (ev_add (ev_ixLN (enc := D.int) (l := source_) (i := 1) (ev_var (i := 0) rfl rfl) (ev_natC (n := 1)) (ho.2.2 hc1).1) (ev_natC (n := 1))) rfl) rfl rfl (ev_natC (n := 1)) rfl (ho.2.2 hc1).2.1 (xs_setG 3 (fun v => Var.fz ((eLst eN) v)) ([2147483647, 2147483629, 2147483587, 2147483579, 2147483563, 2147483549, 2147483543, 2147483497] : List Nat) (fun primes_3 => ok_law_next_8 source_ many_ primes_3) (fun primes_3 => [.io ((eLst D.int) (source_.set 1 ((nth source_ 1) + (1 : Int)))), .fz (eN many_), .un, .fz ((eLst eN) primes_3), .un, .un]) (fun primes_3 => kI (fun v => Var.fz (eN v)) (eLst D.int) (m_law_next_7 source_ many_ primes_3)) (ev_fr (ev_lstT eN ([2147483647, 2147483629, 2147483587, 2147483579, 2147483563, 2147483549, 2147483543, 2147483497] : List Nat) (ea_cons (ev_natC (n := 2147483647)) (ea_cons (ev_natC (n := 2147483629)) (ea_cons (ev_natC (n := 2147483587)) (ea_cons (ev_natC (n := 2147483579)) (ea_cons (ev_natC (n := 2147483563)) (ea_cons (ev_natC (n := 2147483549)) (ea_cons (ev_natC (n := 2147483543)) (ea_cons (ev_natC (n := 2147483497)) ea_nil)))))))))) Sc.nd rfl (by first | exact .inl rfl | exact .inr rfl) (ho.2.2 hc1).2.2 (fun primes_3 hv => (xs_setG 4 (fun v => Var.fz (eN v)) (nth (primes_3 ++ ([2147483489, 2147483477, 2147483423] : List Nat)) (((nth (source_.set 1 ((nth source_ 1) + (1 : Int))) 1) % (11 : Int)).toNat)) (fun prime_4 => ok_law_next_6 source_ many_ prime_4) (fun prime_4 => [.io ((eLst D.int) (source_.set 1 ((nth source_ 1) + (1 : Int)))), .fz (eN many_), .un, .fz ((eLst eN) primes_3), .fz (eN prime_4), .un]) (fun prime_4 => kI (fun v => Var.fz (eN v)) (eLst D.int) (m_law_next_5 source_ many_ prime_4)) (ev_peek (ev_ixLN (enc := eN) (l := (primes_3 ++ ([2147483489, 2147483477, 2147483423] : List Nat))) (i := ((nth (source_.set 1 ((nth source_ 1) + (1 : Int))) 1) % (11 : Int)).toNat) (ev_fr (ev_catL (ev_var (i := 3) rfl rfl) (ev_fr (ev_lstT eN ([2147483489, 2147483477, 2147483423] : List Nat) (ea_cons (ev_natC (n := 2147483489)) (ea_cons (ev_natC (n := 2147483477)) (ea_cons (ev_natC (n := 2147483423)) ea_nil))))) hv.1)) (ev_modIN (ev_intI (by rfl) m_int (ea_1 (ev_ixLN (enc := D.int) (l := (source_.set 1 ((nth source_ 1) + (1 : Int)))) (i := 1) (ev_var (i := 0) rfl rfl) (ev_natC (n := 1)) hv.2.1))) (ev_natC (n := 11)) hv.2.2.1) hv.2.2.2.1) rfl) Sc.nd rfl (by first | exact .inl rfl | exact .inr rfl) hv.2.2.2.2 (fun prime_4 hv => (xs_setG 5 (fun v => Var.fz (D.int v)) ((((((nth (source_.set 1 ((nth source_ 1) + (1 : Int))) 0) % (prime_4 : Int)) + ((7919 : Int) * (nth (source_.set 1 ((nth source_ 1) + (1 : Int))) 1))) + (1 : Int)) ^ 5) % (prime_4 : Int)) (fun mixed_5 => ok_law_next_4 many_ mixed_5) (fun mixed_5 => [.io ((eLst D.int) (source_.set 1 ((nth source_ 1) + (1 : Int)))), .fz (eN many_), .un, .fz ((eLst eN) primes_3), .fz (eN prime_4), .fz (D.int mixed_5)]) (fun mixed_5 => kI (fun v => Var.fz (eN v)) (eLst D.int) (m_law_next_3 source_ many_ mixed_5)) (ev_peek (ev_mod (ev_intI (by rfl) m_int (ea_1 (ev_pow (i := ((((nth (source_.set 1 ((nth source_ 1) + (1 : Int))) 0) % (prime_4 : Int)) + ((7919 : Int) * (nth (source_.set 1 ((nth source_ 1) + (1 : Int))) 1))) + (1 : Int))) (j := 5) (ev_add (ev_add (ev_mod (ev_intI (by rfl) m_int (ea_1 (ev_ixLN (enc := D.int) (l := (source_.set 1 ((nth source_ 1) + (1 : Int)))) (i := 0) (ev_var (i := 0) rfl rfl) (ev_natC (n := 0)) hv.1))) (ev_var (i := 4) rfl rfl) hv.2.1) (ev_mul (ev_natC (n := 7919)) (ev_ixLN (enc := D.int) (l := (source_.set 1 ((nth source_ 1) + (1 : Int)))) (i := 1) (ev_var (i := 0) rfl rfl) (ev_natC (n := 1)) hv.2.2.1) hv.2.2.2.1)) (ev_natC (n := 1))) ev_int hv.2.2.2.2.1))) (ev_var (i := 4) rfl rfl) hv.2.2.2.2.2.1) rfl) Sc.nd rfl (by first | exact .inl rfl | exact .inr rfl) hv.2.2.2.2.2.2 (fun mixed_5 hv => (xs_one (x1_ret (ev_modIN (ev_fdiv (ev_var (i := 5) rfl rfl) (ev_natC (n := 13)) hv.1) (ev_var (i := 1) rfl rfl) hv.2) ⟨rfl, rfl⟩)))))))))))
/-! ### law_pick -/
abbrev s_law_pick : Stmt := top 61
abbrev N_law_pick : List Str := ["source", "items"]
theorem sc_law_pick : FnScope N_law_pick ["source", "items"] (defScope s_law_pick) := ⟨rfl, rfl, rfl, by decide +kernel, rfl, by decide +kernel, by decide +kernel⟩
def m_law_pick (source_ : List Int) (items_ : List (Nat × Nat)) : (Nat × Nat) × List Int := (nth items_ (m_law_next source_ items_.length).1, (m_law_next source_ items_.length).2)
def ok_law_pick (source_ : List Int) (items_ : List (Nat × Nat)) : Prop := ok_law_next source_ items_.length ∧ (m_law_next source_ items_.length).1 < items_.length
def R_law_pick (d0 e0 : D) (r : Var) (d1 : D) : Prop := ∃ source_ items_, ok_law_pick source_ items_ ∧ d0 = eLst D.int source_ ∧ e0 = eLst (eP eN eN) items_ ∧ r = Var.fz ((eP eN eN) (m_law_pick source_ items_).1) ∧ d1 = eLst D.int (m_law_pick source_ items_).2
theorem c_law_pick {k : Nat} (F : FunD K "_law_pick" "_law_pick" (defArgs s_law_pick) (defBody s_law_pick) (defScope s_law_pick) [] [] f fd) (hm : mg "_law_pick" = some (.ref f)) (m_len : mg "len" = none) (F_law_next : Fc P w K mg base "_law_next" ["source", "many"] k (FI R_law_next)) :
    Fc P w K mg base "_law_pick" ["source", "items"] (k + 1) (FI2 R_law_pick) := by
  have Sc := sc_law_pick
  refine fc_of F hm Sc (by decide) (fun _ _ _ _ _ _ us hl => match us, hl with | [_, _], _ => rfl) FI2.par fun cdv A outer s H E hr as r as' hS => ?_
  obtain ⟨d0, e0, d1, ⟨source_, items_, ho, e3, e4, e5, e6⟩, e1, e2⟩ := hS
  subst e1 e2 e3 e4 e5 e6
  have hu := hr.units
  refine XS.ofI2 (enc := fun v => Var.fz ((eP eN eN) v)) (encS := eLst D.int) (v := m_law_pick source_ items_) ?_
  show XS _ _ [.io (eLst D.int source_), .io (eLst (eP eN eN) items_)] _
  exact (xs_one (x1_ret (ev_ixOw (w := true) (enc := (eP eN eN)) (i := 1) rfl rfl (ev_callIo (w := true) (i := 0) F_law_next hr (by rfl) rfl rfl (ea_1 (ev_peek (ev_as (ev_len (by rfl) m_len (ea_1 (ev_var (i := 1) rfl rfl)) rfl) (by rw [List.length_map])) rfl)) rfl (FI.mk ⟨source_, items_.length, ho.1, rfl, rfl, rfl, rfl⟩)) rfl ho.2) ⟨rfl, rfl, rfl⟩))
/-! ### law_turned -/
abbrev s_law_turned : Stmt := top 62
abbrev N_law_turned : List Str := ["source", "items", "rest", "found"]
theorem sc_law_turned : FnScope N_law_turned ["source", "items"] (defScope s_law_turned) := ⟨rfl, rfl, rfl, by decide +kernel, rfl, by decide +kernel, by decide +kernel⟩
def wc_law_turned_1 (s1 : ((List Nat) × (List Nat) × (List Int))) : Bool := (!decide (s1.2.1 = ([] : List Nat)))
def st_law_turned_2 (s1 : ((List Nat) × (List Nat) × (List Int))) : ((List Nat) × (List Nat) × (List Int)) := ((s1.1 ++ [(nth s1.2.1 ((m_law_next s1.2.2 s1.2.1.length).1))]), (s1.2.1.eraseIdx ((m_law_next s1.2.2 s1.2.1.length).1)), (m_law_next s1.2.2 s1.2.1.length).2)
def sk_law_turned_3 (s1 : ((List Nat) × (List Nat) × (List Int))) : Prop := (ok_law_next s1.2.2 s1.2.1.length) ∧ ((m_law_next s1.2.2 s1.2.1.length).1 < s1.2.1.length) ∧ ((m_law_next s1.2.2 s1.2.1.length).1 < 2 ^ 62) ∧ (s1.1.length ≤ 1000000)
def m_law_turned_4 (s2 : ((List Nat) × (List Nat) × (List Int))) : ((List Nat) × (List Int)) := (s2.1, s2.2.2)
def m_law_turned (source_ : (List Int)) (items_ : (List Nat)) : ((List Nat) × (List Int)) := (m_law_turned_4 (whl (fun s1 => wc_law_turned_1 s1) (fun s1 => st_law_turned_2 s1) (items_.length) (([] : List Nat), items_, source_)))
def ok_law_turned (source_ : (List Int)) (items_ : (List Nat)) : Prop := (okW (fun _ => True) (fun s1 => sk_law_turned_3 s1) (fun s1 => wc_law_turned_1 s1) (fun s1 => st_law_turned_2 s1) (items_.length) (([] : List Nat), items_, source_))
def R_law_turned (d0 : D) (ds : List D) (r : Var) (d1 : D) : Prop := ∃ (source_ : (List Int)) (items_ : (List Nat)), ok_law_turned source_ items_ ∧ d0 = (eLst D.int) source_ ∧ ds = [(eLst eN) items_] ∧ r = (fun v => Var.ow ((eLst eN) v)) (m_law_turned source_ items_).1 ∧ d1 = (eLst D.int) (m_law_turned source_ items_).2
theorem c_law_turned {k : Nat} (F : FunD K "_law_turned" "_law_turned" (defArgs s_law_turned) (defBody s_law_turned) (defScope s_law_turned) [] [] f fd) (hm : mg "_law_turned" = some (.ref f)) (m_len : mg "len" = none) (m_list : mg "list" = none) (F_law_next : Fc P w K mg base "_law_next" ["source", "many"] k (FI R_law_next)) :
    Fc P w K mg base "_law_turned" ["source", "items"] (k + 1) (FI (R_law_turned)) := by
  have Sc := sc_law_turned
  refine fc_of F hm Sc (by decide) (fun _ _ _ _ _ _ us hl => match us, hl with | [_, _], _ => rfl) (FI.par (n := 2) fun d0 ds r d1 h => by obtain ⟨_, _, _, _, rfl, _, _⟩ := h; rfl) fun cdv A outer s H E hr as r as' hS => ?_
  obtain ⟨d0, ds, d1, h, e1, e2⟩ := hS
  subst e1 e2
  have hu := hr.units
  obtain ⟨source_, items_, ho, e3, e4, e5, e6⟩ := h
  subst e3 e4 e5 e6
  refine XS.ofI (enc := (fun v => Var.ow ((eLst eN) v))) (encS := (eLst D.int)) (v := m_law_turned source_ items_) ?_
  show XS _ _ [.io ((eLst D.int) source_), .fz ((eLst eN) items_), .un, .un] (kI (fun v => Var.ow ((eLst eN) v)) (eLst D.int) (m_law_turned source_ items_))
  exact (xs_parR 2 3 [.io ((eLst D.int) source_), .fz ((eLst eN) items_), .ow ((eLst eN) items_), .ow ((eLst eN) ([] : List Nat))] (er_cons (ev_list (by rfl) m_list (ea_1 (ev_var (i := 1) rfl rfl)) rfl) (er_cons (ev_lstT eN ([] : List Nat) ea_nil) er_nil)) rfl Sc.nd rfl rfl (by decide) rfl rfl (xs_while (fun s1 => wc_law_turned_1 s1) (fun s1 => st_law_turned_2 s1) (items_.length) (([] : List Nat), items_, source_) (fun _ => True) (fun s1 => sk_law_turned_3 s1) (fun s1 : ((List Nat) × (List Nat) × (List Int)) => [.io ((eLst D.int) s1.2.2), .fz ((eLst eN) items_), .ow ((eLst eN) s1.2.1), .ow ((eLst eN) s1.1)]) (fun _ => True) (fun s2 => kI (fun v => Var.ow ((eLst eN) v)) (eLst D.int) (m_law_turned_4 s2)) ho (fun s1 ho => (et_peek (et_cp (cp_neE (DatE.list (DatE.of Dat.nat)) (by decide) hu (ev_var (i := 2) rfl rfl) (ev_fr (ev_lstT eN ([] : List Nat) ea_nil)))))) (fun s1 hw ho => (xs_app (i := 3) (w := false) [.io ((eLst D.int) ((m_law_next s1.2.2 s1.2.1.length).2)), .fz ((eLst eN) items_), .ow ((eLst eN) (s1.2.1.eraseIdx ((m_law_next s1.2.2 s1.2.1.length).1))), .ow ((eLst eN) (s1.1 ++ [(nth s1.2.1 ((m_law_next s1.2.2 s1.2.1.length).1))]))] rfl rfl (ev_popN (w := false) (i := 2) (enc := eN) (l := s1.2.1) (j := (m_law_next s1.2.2 s1.2.1.length).1) rfl rfl (ev_callIo (w := true) (i := 0) F_law_next hr (by rfl) rfl rfl (ea_cons (ev_peek (ev_as (ev_len (by rfl) m_len (ea_1 (ev_var (i := 2) rfl rfl)) rfl) (by rw [List.length_map])) rfl) ea_nil) rfl (FI.mk ⟨s1.2.2, s1.2.1.length, ho.1, rfl, rfl, rfl, rfl⟩)) rfl ho.2.1 ho.2.2.1) rfl ho.2.2.2 (xs_nil rfl))) trivial (fun s2 hv => (xs_one (x1_retMv 3 rfl rfl ⟨rfl, rfl⟩)))))
/-! ### law_count -/
abbrev s_law_count : Stmt := top 63
abbrev N_law_count : List Str := ["mask", "found"]
theorem sc_law_count : FnScope N_law_count ["mask"] (defScope s_law_count) := ⟨rfl, rfl, rfl, by decide +kernel, rfl, by decide +kernel, by decide +kernel⟩
def wc_law_count_1 (s1 : (Nat × Nat)) : Bool := (decide (0 < s1.2))
def st_law_count_2 (s1 : (Nat × Nat)) : (Nat × Nat) := ((s1.1 + 1), (s1.2 &&& (s1.2 - 1)))
def sk_law_count_3 (s1 : (Nat × Nat)) : Prop := (1 ≤ s1.2)
def m_law_count_4 (s2 : (Nat × Nat)) : Nat := s2.1
def m_law_count (mask_ : Nat) : Nat := (m_law_count_4 (whl (fun s1 => wc_law_count_1 s1) (fun s1 => st_law_count_2 s1) (mask_) (0, mask_)))
def ok_law_count (mask_ : Nat) : Prop := (okW (fun _ => True) (fun s1 => sk_law_count_3 s1) (fun s1 => wc_law_count_1 s1) (fun s1 => st_law_count_2 s1) (mask_) (0, mask_))
def R_law_count (ds : List D) (r : Var) : Prop := ∃ (mask_ : Nat), ok_law_count mask_ ∧ ds = [eN mask_] ∧ r = (fun v => Var.fz (eN v)) (m_law_count mask_)
theorem c_law_count {k : Nat} (F : FunD K "_law_count" "_law_count" (defArgs s_law_count) (defBody s_law_count) (defScope s_law_count) [] [] f fd) (hm : mg "_law_count" = some (.ref f))  :
    Fc P w K mg base "_law_count" ["mask"] (k + 1) (FP (R_law_count)) := by
  have Sc := sc_law_count
  refine fc_of F hm Sc (by decide) (fun _ _ _ _ _ _ us hl => match us, hl with | [_], _ => rfl) (FP.par (n := 1) fun ds r h => by obtain ⟨_, _, rfl, _⟩ := h; rfl) fun cdv A outer s H E hr as r as' hS => ?_
  obtain ⟨ds, e1, e2, h⟩ := hS
  have pk : ∀ ρ, ParOk as as' ρ := fun ρ => FP.ok e1 e2
  subst e1
  have hu := hr.units
  show XS _ _ _ (kF r (ParOk _ as'))
  generalize ParOk _ as' = PK at pk ⊢
  obtain ⟨mask_, ho, e3, e4⟩ := h
  subst e3 e4
  show XS _ _ [.fz (eN mask_), .un] (kF ((fun v => Var.fz (eN v)) (m_law_count mask_)) PK)
  exact (xs_set 1 [.fz (eN mask_), .fz (eN 0)] (ev_natC (n := 0)) Sc.nd rfl (by first | exact .inl rfl | exact .inr rfl) (xs_while (fun s1 => wc_law_count_1 s1) (fun s1 => st_law_count_2 s1) (mask_) (0, mask_) (fun _ => True) (fun s1 => sk_law_count_3 s1) (fun s1 : (Nat × Nat) => [.fz (eN s1.2), .fz (eN s1.1)]) (fun _ => True) (fun s2 => kF ((fun v => Var.fz (eN v)) (m_law_count_4 s2)) PK) ho (fun s1 ho => (et_cp (cp_gtN (i := s1.2) (j := 0) (ev_var (i := 0) rfl rfl) (ev_natC (n := 0))))) (fun s1 hw ho => (xs_par 1 0 [.fz (eN (s1.2 &&& (s1.2 - 1))), .fz (eN (s1.1 + 1))] (ea_cons (ev_addN (i := s1.1) (j := 1) (ev_var (i := 1) rfl rfl) (ev_natC (n := 1))) (ea_cons (ev_andN (i := s1.2) (j := (s1.2 - 1)) (ev_var (i := 0) rfl rfl) (ev_subN (i := s1.2) (j := 1) (ev_var (i := 0) rfl rfl) (ev_natC (n := 1)) ho)) ea_nil)) rfl Sc.nd rfl rfl (by decide) rfl rfl (xs_nil rfl))) trivial (fun s2 hv => (xs_one (x1_ret (ev_var (i := 1) rfl rfl) ⟨rfl, pk _⟩)))))
/-! ### law_ranks -/
abbrev s_law_ranks : Stmt := top 64
abbrev N_law_ranks : List Str := ["many", "bases", "found", "mask", "base"]
theorem sc_law_ranks : FnScope N_law_ranks ["many", "bases"] (defScope s_law_ranks) := ⟨rfl, rfl, rfl, by decide +kernel, rfl, by decide +kernel, by decide +kernel⟩
def st_law_ranks_1 (bases_ : (List Nat)) (s2 : ((List Nat))) (x3 : Nat) : ((List Nat)) := (s2 ++ [(maxL ltN ((bases_).map (fun x5 => (m_law_count (x3 &&& x5)))))])
def sk_law_ranks_2 (bases_ : (List Nat)) (s2 : ((List Nat))) (x3 : Nat) : Prop := ((bases_).length ≤ 1000000) ∧ (∀ x5 ∈ bases_, (ok_law_count (x3 &&& x5))) ∧ ((bases_).map (fun x5 => (m_law_count (x3 &&& x5))) ≠ []) ∧ (s2.length ≤ 1000000)
def m_law_ranks_3 (s4 : ((List Nat))) : (List Nat) := s4
def m_law_ranks_4 (many_ : Nat) (bases_ : (List Nat)) (found_1 : (List Nat)) : (List Nat) := (m_law_ranks_3 (List.foldl (fun s2 x3 => st_law_ranks_1 bases_ s2 x3) found_1 (List.range (1 <<< many_))))
def ok_law_ranks_5 (many_ : Nat) (bases_ : (List Nat)) (found_1 : (List Nat)) : Prop := (many_ ≤ 1000000) ∧ ((1 <<< many_) < 2 ^ 62) ∧ (okF (fun s2 x3 => sk_law_ranks_2 bases_ s2 x3) (fun s2 x3 => st_law_ranks_1 bases_ s2 x3) (List.range (1 <<< many_)) found_1)
def m_law_ranks (many_ : Nat) (bases_ : (List Nat)) : (List Nat) := (m_law_ranks_4 many_ bases_ ([] : List Nat))
def ok_law_ranks (many_ : Nat) (bases_ : (List Nat)) : Prop := (ok_law_ranks_5 many_ bases_ ([] : List Nat))
def R_law_ranks (ds : List D) (r : Var) : Prop := ∃ (many_ : Nat) (bases_ : (List Nat)), ok_law_ranks many_ bases_ ∧ ds = [eN many_, (eLst eN) bases_] ∧ r = (fun v => Var.ow ((eLst eN) v)) (m_law_ranks many_ bases_)
theorem c_law_ranks {k : Nat} (F : FunD K "_law_ranks" "_law_ranks" (defArgs s_law_ranks) (defBody s_law_ranks) (defScope s_law_ranks) [] [] f fd) (hm : mg "_law_ranks" = some (.ref f)) (m_max : mg "max" = none) (m_range : mg "range" = none) (F_law_count : Fc P w K mg base "_law_count" ["mask"] k (FP (R_law_count))) :
    Fc P w K mg base "_law_ranks" ["many", "bases"] (k + 1) (FP (R_law_ranks)) := by
  have Sc := sc_law_ranks
  refine fc_of F hm Sc (by decide) (fun _ _ _ _ _ _ us hl => match us, hl with | [_, _], _ => rfl) (FP.par (n := 2) fun ds r h => by obtain ⟨_, _, _, rfl, _⟩ := h; rfl) fun cdv A outer s H E hr as r as' hS => ?_
  obtain ⟨ds, e1, e2, h⟩ := hS
  have pk : ∀ ρ, ParOk as as' ρ := fun ρ => FP.ok e1 e2
  subst e1
  have hu := hr.units
  show XS _ _ _ (kF r (ParOk _ as'))
  generalize ParOk _ as' = PK at pk ⊢
  obtain ⟨many_, bases_, ho, e3, e4⟩ := h
  subst e3 e4
  show XS _ _ [.fz (eN many_), .fz ((eLst eN) bases_), .un, .un, .un] (kF ((fun v => Var.ow ((eLst eN) v)) (m_law_ranks many_ bases_)) PK)
  exact (xs_setG 2 (fun v => Var.ow ((eLst eN) v)) ([] : List Nat) (fun found_1 => ok_law_ranks_5 many_ bases_ found_1) (fun found_1 => [.fz (eN many_), .fz ((eLst eN) bases_), .ow ((eLst eN) found_1), .un, .un]) (fun found_1 => kF ((fun v => Var.ow ((eLst eN) v)) (m_law_ranks_4 many_ bases_ found_1)) PK) (ev_lstT eN ([] : List Nat) ea_nil) Sc.nd rfl (by first | exact .inl rfl | exact .inr rfl) ho (fun found_1 hv => (xs_forPG (js := [3]) (List.range (1 <<< many_)) eN (fun s2 : ((List Nat)) => [.fz (eN many_), .fz ((eLst eN) bases_), .ow ((eLst eN) s2), .un, .un]) (fun s2 x3 => st_law_ranks_1 bases_ s2 x3) found_1 (fun s2 x3 => sk_law_ranks_2 bases_ s2 x3) (fun _ => True) (fun s4 => kF ((fun v => Var.ow ((eLst eN) v)) (m_law_ranks_3 s4)) PK) (ei_rangeN (by rfl) m_range (ea_1 (ev_shlN (i := 1) (j := many_) (ev_natC (n := 1)) (ev_var (i := 0) rfl rfl) hv.1 (by decide))) hv.2.1) hv.2.2 (fun s2 x3 hx ho => (xg_name 3 Sc.nd rfl (by first | exact .inl rfl | exact .inr rfl) (xs_app (i := 2) (w := false) [.fz (eN many_), .fz ((eLst eN) bases_), .ow ((eLst eN) (s2 ++ [(maxL ltN ((bases_).map (fun x5 => (m_law_count (x3 &&& x5)))))])), .fz (eN x3), .un] rfl rfl (ev_maxT Dat.nat (by decide) hu (by rfl) m_max rfl (ea_1 (ev_fr (ev_lcM (own := [("base", 4)]) (js := [4]) (bases_) eN eN (fun x5 => [.fz (eN many_), .fz ((eLst eN) bases_), .ow ((eLst eN) s2), .fz (eN x3), .fz (eN x5)]) (fun x5 => (m_law_count (x3 &&& x5))) rfl Sc.nd (ei_list (ev_var (i := 1) rfl rfl)) (blkOk_by (own := [("base", 4)]) (by kernel_rfl)) (by decide) (fun _ _ => rfl) (fun x5 _ _ _ _ _ _ => (xg_name 4 Sc.nd rfl (by first | exact .inl rfl | exact .inr rfl) rfl)) (fun x5 hx5 _ _ _ _ _ => (ev_call F_law_count hr (by rfl) pass0 (ea_cons (ev_andN (i := x3) (j := x5) (ev_var (i := 3) rfl rfl) (ev_var (i := 4) rfl rfl)) ea_nil) (FP.mk ⟨(x3 &&& x5), (ho.2.1 x5 hx5), rfl, rfl⟩))) (Nat.lt_of_le_of_lt ho.1 (by decide))))) ho.2.2.1) rfl ho.2.2.2 (xs_un 3 (xs_nil rfl))))) trivial (fun s4 hv => (xs_one (x1_retMv 2 rfl rfl ⟨rfl, pk _⟩))))))
/-! ### law_sized -/
abbrev s_law_sized : Stmt := top 65
abbrev N_law_sized : List Str := ["many", "size", "mask"]
theorem sc_law_sized : FnScope N_law_sized ["many", "size"] (defScope s_law_sized) := ⟨rfl, rfl, rfl, by decide +kernel, rfl, by decide +kernel, by decide +kernel⟩
def m_law_sized (many_ : Nat) (size_ : Nat) : (List Nat) := ((List.range (1 <<< many_)).filter (fun x1 => (decide ((m_law_count x1) = size_)))).map (fun x1 => x1)
def ok_law_sized (many_ : Nat) (_size_ : Nat) : Prop := (many_ ≤ 1000000) ∧ ((1 <<< many_) < 2 ^ 62) ∧ ((List.range (1 <<< many_)).length ≤ 1000000) ∧ (∀ x1 ∈ List.range (1 <<< many_), (ok_law_count x1))
def R_law_sized (ds : List D) (r : Var) : Prop := ∃ (many_ : Nat) (size_ : Nat), ok_law_sized many_ size_ ∧ ds = [eN many_, eN size_] ∧ r = (fun v => Var.ow ((eLst eN) v)) (m_law_sized many_ size_)
theorem c_law_sized {k : Nat} (F : FunD K "_law_sized" "_law_sized" (defArgs s_law_sized) (defBody s_law_sized) (defScope s_law_sized) [] [] f fd) (hm : mg "_law_sized" = some (.ref f)) (m_range : mg "range" = none) (F_law_count : Fc P w K mg base "_law_count" ["mask"] k (FP (R_law_count))) :
    Fc P w K mg base "_law_sized" ["many", "size"] (k + 1) (FP (R_law_sized)) := by
  have Sc := sc_law_sized
  refine fc_of F hm Sc (by decide) (fun _ _ _ _ _ _ us hl => match us, hl with | [_, _], _ => rfl) (FP.par (n := 2) fun ds r h => by obtain ⟨_, _, _, rfl, _⟩ := h; rfl) fun cdv A outer s H E hr as r as' hS => ?_
  obtain ⟨ds, e1, e2, h⟩ := hS
  have pk : ∀ ρ, ParOk as as' ρ := fun ρ => FP.ok e1 e2
  subst e1
  have hu := hr.units
  show XS _ _ _ (kF r (ParOk _ as'))
  generalize ParOk _ as' = PK at pk ⊢
  obtain ⟨many_, size_, ho, e3, e4⟩ := h
  subst e3 e4
  show XS _ _ [.fz (eN many_), .fz (eN size_), .un] (kF ((fun v => Var.ow ((eLst eN) v)) (m_law_sized many_ size_)) PK)
  exact (xs_one (x1_ret (ev_lcF (own := [("mask", 2)]) (js := [2]) (List.range (1 <<< many_)) eN eN (fun x1 => [.fz (eN many_), .fz (eN size_), .fz (eN x1)]) (fun x1 => (decide ((m_law_count x1) = size_))) (fun x1 => x1) rfl Sc.nd (ei_rangeN (by rfl) m_range (ea_1 (ev_shlN (i := 1) (j := many_) (ev_natC (n := 1)) (ev_var (i := 0) rfl rfl) ho.1 (by decide))) ho.2.1) (blkOk_by (own := [("mask", 2)]) (by kernel_rfl)) (by decide) (fun _ _ => rfl) (fun x1 _ _ _ _ _ _ => (xg_name 2 Sc.nd rfl (by first | exact .inl rfl | exact .inr rfl) rfl)) (fun x1 hx1 _ _ _ _ _ => ets_one (et_cp (cp_eqN (i := (m_law_count x1)) (j := size_) (ev_call F_law_count hr (by rfl) pass0 (ea_cons (ev_var (i := 2) rfl rfl) ea_nil) (FP.mk ⟨x1, (ho.2.2.2 x1 hx1), rfl, rfl⟩)) (ev_var (i := 1) rfl rfl)))) (fun x1 hx1 hqx1 _ _ _ _ _ => (ev_var (i := 2) rfl rfl)) (Nat.lt_of_le_of_lt ho.2.2.1 (by decide))) ⟨rfl, pk _⟩))
/-! ### law_sparse -/
abbrev s_law_sparse : Stmt := top 66
abbrev N_law_sparse : List Str := ["source", "many", "size", "rest", "gone", "mask", "found", "mate"]
theorem sc_law_sparse : FnScope N_law_sparse ["source", "many"] (defScope s_law_sparse) := ⟨rfl, rfl, rfl, by decide +kernel, rfl, by decide +kernel, by decide +kernel⟩
def st_law_sparse_1 (size_1 : Nat) (s2 : ((List Nat))) (x3 : Nat) : ((List Nat)) := (if (decide (((s2).filter (fun x5 => (decide (((size_1 : Int) - (2 : Int)) < (((m_law_count (x3 &&& x5)) : Nat) : Int))))).map (fun x5 => 1) = ([] : List Nat))) = true then (s2 ++ [x3]) else s2)
def sk_law_sparse_2 (size_1 : Nat) (s2 : ((List Nat))) (x3 : Nat) : Prop := ((s2).length ≤ 1000000) ∧ (∀ x5 ∈ s2, (ok_law_count (x3 &&& x5))) ∧ ((decide (((s2).filter (fun x5 => (decide (((size_1 : Int) - (2 : Int)) < (((m_law_count (x3 &&& x5)) : Nat) : Int))))).map (fun x5 => 1) = ([] : List Nat))) = true → (s2.length ≤ 1000000))
def m_law_sparse_3 (source_ : (List Int)) (many_ : Nat) (size_1 : Nat) (found_9 : (List Nat)) : ((List Nat) × (List Int)) := ((if (!decide (found_9 = ([] : List Nat))) = true then found_9 else (m_law_turned ((m_law_next source_ (many_ - 1)).2) (m_law_sized many_ size_1)).1), (m_law_next ((m_law_turned ((m_law_next source_ (many_ - 1)).2) (m_law_sized many_ size_1)).2) 6).2)
def m_law_sparse_4 (source_ : (List Int)) (many_ : Nat) (size_1 : Nat) (s4 : ((List Nat))) : ((List Nat) × (List Int)) := (m_law_sparse_3 source_ many_ size_1 ((((m_law_turned ((m_law_next source_ (many_ - 1)).2) (m_law_sized many_ size_1)).1).filter (fun x8 => (!decide (x8 ∈ s4)))).map (fun x8 => x8)))
def ok_law_sparse_5 (source_ : (List Int)) (many_ : Nat) (size_1 : Nat) (s4 : ((List Nat))) : Prop := (((m_law_turned ((m_law_next source_ (many_ - 1)).2) (m_law_sized many_ size_1)).1).length ≤ 1000000)
def m_law_sparse_6 (source_ : (List Int)) (many_ : Nat) (size_1 : Nat) : ((List Nat) × (List Int)) := (m_law_sparse_4 source_ many_ size_1 (List.foldl (fun s2 x3 => st_law_sparse_1 size_1 s2 x3) ([] : List Nat) ((cutN ((m_law_turned ((m_law_next source_ (many_ - 1)).2) (m_law_sized many_ size_1)).1) none (some ((m_law_next ((m_law_turned ((m_law_next source_ (many_ - 1)).2) (m_law_sized many_ size_1)).2) 6).1))))))
def ok_law_sparse_7 (source_ : (List Int)) (many_ : Nat) (size_1 : Nat) : Prop := (ok_law_sized many_ size_1) ∧ (ok_law_turned ((m_law_next source_ (many_ - 1)).2) (m_law_sized many_ size_1)) ∧ (ok_law_next ((m_law_turned ((m_law_next source_ (many_ - 1)).2) (m_law_sized many_ size_1)).2) 6) ∧ (okF (fun s2 x3 => sk_law_sparse_2 size_1 s2 x3) (fun s2 x3 => st_law_sparse_1 size_1 s2 x3) ((cutN ((m_law_turned ((m_law_next source_ (many_ - 1)).2) (m_law_sized many_ size_1)).1) none (some ((m_law_next ((m_law_turned ((m_law_next source_ (many_ - 1)).2) (m_law_sized many_ size_1)).2) 6).1)))) ([] : List Nat)) ∧ (ok_law_sparse_5 source_ many_ size_1 (List.foldl (fun s2 x3 => st_law_sparse_1 size_1 s2 x3) ([] : List Nat) ((cutN ((m_law_turned ((m_law_next source_ (many_ - 1)).2) (m_law_sized many_ size_1)).1) none (some ((m_law_next ((m_law_turned ((m_law_next source_ (many_ - 1)).2) (m_law_sized many_ size_1)).2) 6).1))))))
def m_law_sparse (source_ : (List Int)) (many_ : Nat) : ((List Nat) × (List Int)) := (m_law_sparse_6 source_ many_ (1 + (m_law_next source_ (many_ - 1)).1))
def ok_law_sparse (source_ : (List Int)) (many_ : Nat) : Prop := (1 ≤ many_) ∧ (ok_law_next source_ (many_ - 1)) ∧ (ok_law_sparse_7 source_ many_ (1 + (m_law_next source_ (many_ - 1)).1))
def R_law_sparse (d0 : D) (ds : List D) (r : Var) (d1 : D) : Prop := ∃ (source_ : (List Int)) (many_ : Nat), ok_law_sparse source_ many_ ∧ d0 = (eLst D.int) source_ ∧ ds = [eN many_] ∧ r = (fun v => Var.fz ((eLst eN) v)) (m_law_sparse source_ many_).1 ∧ d1 = (eLst D.int) (m_law_sparse source_ many_).2
theorem c_law_sparse {k : Nat} (F : FunD K "_law_sparse" "_law_sparse" (defArgs s_law_sparse) (defBody s_law_sparse) (defScope s_law_sparse) [] [] f fd) (hm : mg "_law_sparse" = some (.ref f)) (F_law_next : Fc P w K mg base "_law_next" ["source", "many"] k (FI R_law_next)) (F_law_sized : Fc P w K mg base "_law_sized" ["many", "size"] k (FP (R_law_sized))) (F_law_turned : Fc P w K mg base "_law_turned" ["source", "items"] k (FI R_law_turned)) (F_law_count : Fc P w K mg base "_law_count" ["mask"] k (FP (R_law_count))) :
    Fc P w K mg base "_law_sparse" ["source", "many"] (k + 1) (FI (R_law_sparse)) := by
  have Sc := sc_law_sparse
  refine fc_of F hm Sc (by decide) (fun _ _ _ _ _ _ us hl => match us, hl with | [_, _], _ => rfl) (FI.par (n := 2) fun d0 ds r d1 h => by obtain ⟨_, _, _, _, rfl, _, _⟩ := h; rfl) fun cdv A outer s H E hr as r as' hS => ?_
  obtain ⟨d0, ds, d1, h, e1, e2⟩ := hS
  subst e1 e2
  have hu := hr.units
  obtain ⟨source_, many_, ho, e3, e4, e5, e6⟩ := h
  subst e3 e4 e5 e6
  refine XS.ofI (enc := (fun v => Var.fz ((eLst eN) v))) (encS := (eLst D.int)) (v := m_law_sparse source_ many_) ?_
  show XS _ _ [.io ((eLst D.int) source_), .fz (eN many_), .un, .un, .un, .un, .un, .un] (kI (fun v => Var.fz ((eLst eN) v)) (eLst D.int) (m_law_sparse source_ many_))
  exact (xs_setG 2 (fun v => Var.fz (eN v)) (1 + (m_law_next source_ (many_ - 1)).1) (fun size_1 => ok_law_sparse_7 source_ many_ size_1) (fun size_1 => [.io ((eLst D.int) ((m_law_next source_ (many_ - 1)).2)), .fz (eN many_), .fz (eN size_1), .un, .un, .un, .un, .un]) (fun size_1 => kI (fun v => Var.fz ((eLst eN) v)) (eLst D.int) (m_law_sparse_6 source_ many_ size_1)) (ev_addN (i := 1) (j := (m_law_next source_ (many_ - 1)).1) (ev_natC (n := 1)) (ev_callIo (w := true) (i := 0) F_law_next hr (by rfl) rfl rfl (ea_cons (ev_subN (i := many_) (j := 1) (ev_var (i := 1) rfl rfl) (ev_natC (n := 1)) ho.1) ea_nil) rfl (FI.mk ⟨source_, (many_ - 1), ho.2.1, rfl, rfl, rfl, rfl⟩))) Sc.nd rfl (by first | exact .inl rfl | exact .inr rfl) ho.2.2 (fun size_1 hv => (xs_parU 3 4 [.io ((eLst D.int) ((m_law_turned ((m_law_next source_ (many_ - 1)).2) (m_law_sized many_ size_1)).2)), .fz (eN many_), .fz (eN size_1), .fz ((eLst eN) ((m_law_turned ((m_law_next source_ (many_ - 1)).2) (m_law_sized many_ size_1)).1)), .ow ((eLst eN) ([] : List Nat)), .un, .un, .un] (er_cons (ev_fr (ev_callIo (w := true) (i := 0) F_law_turned hr (by rfl) rfl rfl (ea_cons (ev_fr (ev_call F_law_sized hr (by rfl) pass0 (ea_cons (ev_var (i := 1) rfl rfl) (ea_cons (ev_var (i := 2) rfl rfl) ea_nil)) (FP.mk ⟨many_, size_1, hv.1, rfl, rfl⟩))) ea_nil) rfl (FI.mk ⟨(m_law_next source_ (many_ - 1)).2, (m_law_sized many_ size_1), hv.2.1, rfl, rfl, rfl, rfl⟩))) (er_cons (ev_lstT eN ([] : List Nat) ea_nil) er_nil)) rfl Sc.nd rfl rfl (by decide) (by first | exact .inl rfl | exact .inr rfl) (by first | exact .inl rfl | exact .inr rfl) (xs_forPG (js := [5]) ((cutN ((m_law_turned ((m_law_next source_ (many_ - 1)).2) (m_law_sized many_ size_1)).1) none (some ((m_law_next ((m_law_turned ((m_law_next source_ (many_ - 1)).2) (m_law_sized many_ size_1)).2) 6).1)))) eN (fun s2 : ((List Nat)) => [.io ((eLst D.int) ((m_law_next ((m_law_turned ((m_law_next source_ (many_ - 1)).2) (m_law_sized many_ size_1)).2) 6).2)), .fz (eN many_), .fz (eN size_1), .fz ((eLst eN) ((m_law_turned ((m_law_next source_ (many_ - 1)).2) (m_law_sized many_ size_1)).1)), .ow ((eLst eN) s2), .un, .un, .un]) (fun s2 x3 => st_law_sparse_1 size_1 s2 x3) ([] : List Nat) (fun s2 x3 => sk_law_sparse_2 size_1 s2 x3) (fun s4 => ok_law_sparse_5 source_ many_ size_1 s4) (fun s4 => kI (fun v => Var.fz ((eLst eN) v)) (eLst D.int) (m_law_sparse_4 source_ many_ size_1 s4)) (ei_list (ev_fr (ev_cutL (enc := eN) (l := (m_law_turned ((m_law_next source_ (many_ - 1)).2) (m_law_sized many_ size_1)).1) (o1 := none) (o2 := (some ((m_law_next ((m_law_turned ((m_law_next source_ (many_ - 1)).2) (m_law_sized many_ size_1)).2) 6).1))) (ev_var (i := 3) rfl rfl) eo_noneN (eo_someN (ev_callIo (w := true) (i := 0) F_law_next hr (by rfl) rfl rfl (ea_cons (ev_natC (n := 6)) ea_nil) rfl (FI.mk ⟨(m_law_turned ((m_law_next source_ (many_ - 1)).2) (m_law_sized many_ size_1)).2, 6, hv.2.2.1, rfl, rfl, rfl, rfl⟩)))))) hv.2.2.2.1 (fun s2 x3 hx ho => (xg_name 5 Sc.nd rfl (by first | exact .inl rfl | exact .inr rfl) (xs_ifE (et_peek (et_cp (cp_eqE (DatE.list (DatE.of Dat.nat)) (by decide) hu (ev_fr (ev_lcF (own := [("mate", 7)]) (js := [7]) (s2) eN eN (fun x5 => [.fz ((eLst D.int) ((m_law_next ((m_law_turned ((m_law_next source_ (many_ - 1)).2) (m_law_sized many_ size_1)).2) 6).2)), .fz (eN many_), .fz (eN size_1), .fz ((eLst eN) ((m_law_turned ((m_law_next source_ (many_ - 1)).2) (m_law_sized many_ size_1)).1)), .fz ((eLst eN) s2), .fz (eN x3), .un, .fz (eN x5)]) (fun x5 => (decide (((size_1 : Int) - (2 : Int)) < (((m_law_count (x3 &&& x5)) : Nat) : Int)))) (fun x5 => 1) rfl Sc.nd (ei_list (ev_var (i := 4) rfl rfl)) (blkOk_by (own := [("mate", 7)]) (by kernel_rfl)) (by decide) (fun _ _ => rfl) (fun x5 _ _ _ _ _ _ => (xg_name 7 Sc.nd rfl (by first | exact .inl rfl | exact .inr rfl) rfl)) (fun x5 hx5 _ _ _ _ _ => ets_one (et_cp (cp_gt (i := (((m_law_count (x3 &&& x5)) : Nat) : Int)) (j := ((size_1 : Int) - (2 : Int))) (ev_call F_law_count hr (by rfl) pass0 (ea_cons (ev_andN (i := x3) (j := x5) (ev_var (i := 5) rfl rfl) (ev_var (i := 7) rfl rfl)) ea_nil) (FP.mk ⟨(x3 &&& x5), (ho.2.1 x5 hx5), rfl, rfl⟩)) (ev_sub (ev_var (i := 2) rfl rfl) (ev_natC (n := 2)))))) (fun x5 hx5 hqx5 _ _ _ _ _ => (ev_natC (n := 1))) (Nat.lt_of_le_of_lt ho.1 (by decide)))) (ev_fr (ev_lstT eN ([] : List Nat) ea_nil))))) (fun hc6 => XS.ift (fun w => kL ((fun s2 : ((List Nat)) => [.io ((eLst D.int) ((m_law_next ((m_law_turned ((m_law_next source_ (many_ - 1)).2) (m_law_sized many_ size_1)).2) 6).2)), .fz (eN many_), .fz (eN size_1), .fz ((eLst eN) ((m_law_turned ((m_law_next source_ (many_ - 1)).2) (m_law_sized many_ size_1)).1)), .ow ((eLst eN) s2), .un, .un, .un]) w)) hc6 (xs_app (i := 4) (w := false) [.io ((eLst D.int) ((m_law_next ((m_law_turned ((m_law_next source_ (many_ - 1)).2) (m_law_sized many_ size_1)).2) 6).2)), .fz (eN many_), .fz (eN size_1), .fz ((eLst eN) ((m_law_turned ((m_law_next source_ (many_ - 1)).2) (m_law_sized many_ size_1)).1)), .ow ((eLst eN) (s2 ++ [x3])), .fz (eN x3), .un, .un] rfl rfl (ev_var (i := 5) rfl rfl) rfl (ho.2.2 hc6) (xs_un 5 (xs_nil rfl)))) (fun hc6 => XS.iff (fun w => kL ((fun s2 : ((List Nat)) => [.io ((eLst D.int) ((m_law_next ((m_law_turned ((m_law_next source_ (many_ - 1)).2) (m_law_sized many_ size_1)).2) 6).2)), .fz (eN many_), .fz (eN size_1), .fz ((eLst eN) ((m_law_turned ((m_law_next source_ (many_ - 1)).2) (m_law_sized many_ size_1)).1)), .ow ((eLst eN) s2), .un, .un, .un]) w)) hc6 (xs_un 5 (xs_nil rfl)))))) hv.2.2.2.2 (fun s4 hv => (xs_setLcG (own := [("mask", 5)]) (js := [5]) 6 ((m_law_turned ((m_law_next source_ (many_ - 1)).2) (m_law_sized many_ size_1)).1) eN eN (fun x8 => [.io ((eLst D.int) ((m_law_next ((m_law_turned ((m_law_next source_ (many_ - 1)).2) (m_law_sized many_ size_1)).2) 6).2)), .fz (eN many_), .fz (eN size_1), .fz ((eLst eN) ((m_law_turned ((m_law_next source_ (many_ - 1)).2) (m_law_sized many_ size_1)).1)), .ow ((eLst eN) s4), .fz (eN x8), .un, .un]) (fun x8 => (!decide (x8 ∈ s4))) (fun x8 => x8) (fun _ => True) (fun found_9 => [.io ((eLst D.int) ((m_law_next ((m_law_turned ((m_law_next source_ (many_ - 1)).2) (m_law_sized many_ size_1)).2) 6).2)), .fz (eN many_), .fz (eN size_1), .fz ((eLst eN) ((m_law_turned ((m_law_next source_ (many_ - 1)).2) (m_law_sized many_ size_1)).1)), .ow ((eLst eN) s4), .un, .fz ((eLst eN) found_9), .un]) (fun found_9 => kI (fun v => Var.fz ((eLst eN) v)) (eLst D.int) (m_law_sparse_3 source_ many_ size_1 found_9)) rfl Sc.nd rfl rfl (ei_list (ev_var (i := 3) rfl rfl)) (blkOk_by (own := [("mask", 5)]) (by kernel_rfl)) (by decide) (fun _ _ => rfl) (fun x8 _ _ _ _ _ _ => (xg_name 5 Sc.nd rfl (by first | exact .inl rfl | exact .inr rfl) rfl)) (fun x8 hx8 _ _ _ _ _ => ets_one (et_peek (et_cp (cp_niLN (ev_var (i := 5) rfl rfl) (ev_var (i := 4) rfl rfl))))) (fun x8 hx8 hqx8 _ _ _ _ _ => (ev_var (i := 5) rfl rfl)) (Nat.lt_of_le_of_lt hv (by decide)) trivial (fun found_9 hv => (xs_one (x1_ret (ev_ifT (enc := fun v => Var.fz ((eLst eN) v)) (et_cp (cp_neE (DatE.list (DatE.of Dat.nat)) (by decide) hu (ev_var (i := 6) rfl rfl) (ev_fr (ev_lstT eN ([] : List Nat) ea_nil)))) (fun hc => (ev_var (i := 6) rfl rfl)) (fun hc => (ev_var (i := 3) rfl rfl))) ⟨rfl, rfl⟩)))))))))
/-! ### law_forest_bases -/
abbrev s_law_forest_bases : Stmt := top 67
abbrev N_law_forest_bases : List Str := ["many", "lines", "kept", "mask", "low", "where", "line", "first", "last", "most", "spot"]
theorem sc_law_forest_bases : FnScope N_law_forest_bases ["many", "lines"] (defScope s_law_forest_bases) := ⟨rfl, rfl, rfl, by decide +kernel, rfl, by decide +kernel, by decide +kernel⟩
def m_law_forest_bases_l_1 (s2 : ((List (Nat × (List Nat))))) (x3 : Nat) (where_5 : (Option (List Nat))) (line_7 : (Nat × Nat)) : ((List (Nat × (List Nat)))) := (if (!decide (((nth (where_5.getD default) line_7.1), (nth (where_5.getD default) line_7.2)).1 = ((nth (where_5.getD default) line_7.1), (nth (where_5.getD default) line_7.2)).2)) = true then (dput s2 x3 (((where_5.getD default)).map (fun x9 => (if (decide (x9 = ((nth (where_5.getD default) line_7.1), (nth (where_5.getD default) line_7.2)).2)) = true then ((nth (where_5.getD default) line_7.1), (nth (where_5.getD default) line_7.2)).1 else x9)))) else s2)
def ok_law_forest_bases_l_2 (s2 : ((List (Nat × (List Nat))))) (where_5 : (Option (List Nat))) (line_7 : (Nat × Nat)) : Prop := (line_7.1 < (where_5.getD default).length) ∧ (line_7.2 < (where_5.getD default).length) ∧ ((!decide (((nth (where_5.getD default) line_7.1), (nth (where_5.getD default) line_7.2)).1 = ((nth (where_5.getD default) line_7.1), (nth (where_5.getD default) line_7.2)).2)) = true → (((where_5.getD default)).length ≤ 1000000) ∧ (s2.length ≤ 1000000))
def m_law_forest_bases_l_3 (lines_ : (List (Nat × Nat))) (s2 : ((List (Nat × (List Nat))))) (x3 : Nat) (where_5 : (Option (List Nat))) : ((List (Nat × (List Nat)))) := (if where_5.isSome = true then (m_law_forest_bases_l_1 s2 x3 where_5 (nth lines_ ((bits (lowb x3)) - 1))) else s2)
def ok_law_forest_bases_l_4 (lines_ : (List (Nat × Nat))) (s2 : ((List (Nat × (List Nat))))) (x3 : Nat) (where_5 : (Option (List Nat))) : Prop := (where_5.isSome = true → (1 ≤ (bits (lowb x3))) ∧ (((bits (lowb x3)) - 1) < lines_.length) ∧ (ok_law_forest_bases_l_2 s2 where_5 (nth lines_ ((bits (lowb x3)) - 1))))
def st_law_forest_bases_l_5 (lines_ : (List (Nat × Nat))) (s2 : ((List (Nat × (List Nat))))) (x3 : Nat) : ((List (Nat × (List Nat)))) := (m_law_forest_bases_l_3 lines_ s2 x3 (dlook s2 (x3 ^^^ (lowb x3))))
def sk_law_forest_bases_l_6 (lines_ : (List (Nat × Nat))) (s2 : ((List (Nat × (List Nat))))) (x3 : Nat) : Prop := (ok_law_forest_bases_l_4 lines_ s2 x3 (dlook s2 (x3 ^^^ (lowb x3))))
def m_law_forest_bases_l_7 (s4 : ((List (Nat × (List Nat))))) (most_11 : Nat) : (List Nat) := ((s4.map (·.1)).filter (fun x12 => (decide ((m_law_count x12) = most_11)))).map (fun x12 => x12)
def ok_law_forest_bases_l_8 (s4 : ((List (Nat × (List Nat))))) (most_11 : Nat) : Prop := ((s4.map (·.1)).length ≤ 1000000) ∧ (∀ x12 ∈ s4.map (·.1), (ok_law_count x12))
def m_law_forest_bases_l_9 (s4 : ((List (Nat × (List Nat))))) : (List Nat) := (m_law_forest_bases_l_7 s4 (maxL ltN ((s4.map (·.1)).map (fun x10 => (m_law_count x10)))))
def ok_law_forest_bases_l_10 (s4 : ((List (Nat × (List Nat))))) : Prop := ((s4.map (·.1)).length ≤ 1000000) ∧ (∀ x10 ∈ s4.map (·.1), (ok_law_count x10)) ∧ ((s4.map (·.1)).map (fun x10 => (m_law_count x10)) ≠ []) ∧ (ok_law_forest_bases_l_8 s4 (maxL ltN ((s4.map (·.1)).map (fun x10 => (m_law_count x10)))))
def m_law_forest_bases_l_11 (many_ : Nat) (lines_ : (List (Nat × Nat))) (kept_1 : (List (Nat × (List Nat)))) : (List Nat) := (m_law_forest_bases_l_9 (List.foldl (fun s2 x3 => st_law_forest_bases_l_5 lines_ s2 x3) kept_1 (rgN 1 (1 <<< many_))))
def ok_law_forest_bases_l_12 (many_ : Nat) (lines_ : (List (Nat × Nat))) (kept_1 : (List (Nat × (List Nat)))) : Prop := (many_ ≤ 1000000) ∧ (1 < 2 ^ 62 ∧ (1 <<< many_) < 2 ^ 62) ∧ (okF (fun s2 x3 => sk_law_forest_bases_l_6 lines_ s2 x3) (fun s2 x3 => st_law_forest_bases_l_5 lines_ s2 x3) (rgN 1 (1 <<< many_)) kept_1) ∧ (ok_law_forest_bases_l_10 (List.foldl (fun s2 x3 => st_law_forest_bases_l_5 lines_ s2 x3) kept_1 (rgN 1 (1 <<< many_))))
def m_law_forest_bases_l (many_ : Nat) (lines_ : (List (Nat × Nat))) : (List Nat) := (m_law_forest_bases_l_11 many_ lines_ ([(0, (List.range 12))] : List (Nat × (List Nat))))
def ok_law_forest_bases_l (many_ : Nat) (lines_ : (List (Nat × Nat))) : Prop := (12 ≤ 1000000) ∧ (ok_law_forest_bases_l_12 many_ lines_ ([(0, (List.range 12))] : List (Nat × (List Nat))))
def R_law_forest_bases_l (ds : List D) (r : Var) : Prop := ∃ (many_ : Nat) (lines_ : (List (Nat × Nat))), ok_law_forest_bases_l many_ lines_ ∧ ds = [eN many_, (eLst (eP eN eN)) lines_] ∧ r = (fun v => Var.ow ((eLst eN) v)) (m_law_forest_bases_l many_ lines_)
def m_law_forest_bases_t_1 (s2 : ((List (Nat × (List Nat))))) (x3 : Nat) (where_5 : (Option (List Nat))) (line_7 : (Nat × Nat)) : ((List (Nat × (List Nat)))) := (if (!decide (((nth (where_5.getD default) line_7.1), (nth (where_5.getD default) line_7.2)).1 = ((nth (where_5.getD default) line_7.1), (nth (where_5.getD default) line_7.2)).2)) = true then (dput s2 x3 (((where_5.getD default)).map (fun x9 => (if (decide (x9 = ((nth (where_5.getD default) line_7.1), (nth (where_5.getD default) line_7.2)).2)) = true then ((nth (where_5.getD default) line_7.1), (nth (where_5.getD default) line_7.2)).1 else x9)))) else s2)
def ok_law_forest_bases_t_2 (s2 : ((List (Nat × (List Nat))))) (where_5 : (Option (List Nat))) (line_7 : (Nat × Nat)) : Prop := (line_7.1 < (where_5.getD default).length) ∧ (line_7.2 < (where_5.getD default).length) ∧ ((!decide (((nth (where_5.getD default) line_7.1), (nth (where_5.getD default) line_7.2)).1 = ((nth (where_5.getD default) line_7.1), (nth (where_5.getD default) line_7.2)).2)) = true → (((where_5.getD default)).length ≤ 1000000) ∧ (s2.length ≤ 1000000))
def m_law_forest_bases_t_3 (lines_ : (List (Nat × Nat))) (s2 : ((List (Nat × (List Nat))))) (x3 : Nat) (where_5 : (Option (List Nat))) : ((List (Nat × (List Nat)))) := (if where_5.isSome = true then (m_law_forest_bases_t_1 s2 x3 where_5 (nth lines_ ((bits (lowb x3)) - 1))) else s2)
def ok_law_forest_bases_t_4 (lines_ : (List (Nat × Nat))) (s2 : ((List (Nat × (List Nat))))) (x3 : Nat) (where_5 : (Option (List Nat))) : Prop := (where_5.isSome = true → (1 ≤ (bits (lowb x3))) ∧ (((bits (lowb x3)) - 1) < lines_.length) ∧ (ok_law_forest_bases_t_2 s2 where_5 (nth lines_ ((bits (lowb x3)) - 1))))
def st_law_forest_bases_t_5 (lines_ : (List (Nat × Nat))) (s2 : ((List (Nat × (List Nat))))) (x3 : Nat) : ((List (Nat × (List Nat)))) := (m_law_forest_bases_t_3 lines_ s2 x3 (dlook s2 (x3 ^^^ (lowb x3))))
def sk_law_forest_bases_t_6 (lines_ : (List (Nat × Nat))) (s2 : ((List (Nat × (List Nat))))) (x3 : Nat) : Prop := (ok_law_forest_bases_t_4 lines_ s2 x3 (dlook s2 (x3 ^^^ (lowb x3))))
def m_law_forest_bases_t_7 (s4 : ((List (Nat × (List Nat))))) (most_11 : Nat) : (List Nat) := ((s4.map (·.1)).filter (fun x12 => (decide ((m_law_count x12) = most_11)))).map (fun x12 => x12)
def ok_law_forest_bases_t_8 (s4 : ((List (Nat × (List Nat))))) (most_11 : Nat) : Prop := ((s4.map (·.1)).length ≤ 1000000) ∧ (∀ x12 ∈ s4.map (·.1), (ok_law_count x12))
def m_law_forest_bases_t_9 (s4 : ((List (Nat × (List Nat))))) : (List Nat) := (m_law_forest_bases_t_7 s4 (maxL ltN ((s4.map (·.1)).map (fun x10 => (m_law_count x10)))))
def ok_law_forest_bases_t_10 (s4 : ((List (Nat × (List Nat))))) : Prop := ((s4.map (·.1)).length ≤ 1000000) ∧ (∀ x10 ∈ s4.map (·.1), (ok_law_count x10)) ∧ ((s4.map (·.1)).map (fun x10 => (m_law_count x10)) ≠ []) ∧ (ok_law_forest_bases_t_8 s4 (maxL ltN ((s4.map (·.1)).map (fun x10 => (m_law_count x10)))))
def m_law_forest_bases_t_11 (many_ : Nat) (lines_ : (List (Nat × Nat))) (kept_1 : (List (Nat × (List Nat)))) : (List Nat) := (m_law_forest_bases_t_9 (List.foldl (fun s2 x3 => st_law_forest_bases_t_5 lines_ s2 x3) kept_1 (rgN 1 (1 <<< many_))))
def ok_law_forest_bases_t_12 (many_ : Nat) (lines_ : (List (Nat × Nat))) (kept_1 : (List (Nat × (List Nat)))) : Prop := (many_ ≤ 1000000) ∧ (1 < 2 ^ 62 ∧ (1 <<< many_) < 2 ^ 62) ∧ (okF (fun s2 x3 => sk_law_forest_bases_t_6 lines_ s2 x3) (fun s2 x3 => st_law_forest_bases_t_5 lines_ s2 x3) (rgN 1 (1 <<< many_)) kept_1) ∧ (ok_law_forest_bases_t_10 (List.foldl (fun s2 x3 => st_law_forest_bases_t_5 lines_ s2 x3) kept_1 (rgN 1 (1 <<< many_))))
def m_law_forest_bases_t (many_ : Nat) (lines_ : (List (Nat × Nat))) : (List Nat) := (m_law_forest_bases_t_11 many_ lines_ ([(0, (List.range 12))] : List (Nat × (List Nat))))
def ok_law_forest_bases_t (many_ : Nat) (lines_ : (List (Nat × Nat))) : Prop := (12 ≤ 1000000) ∧ (ok_law_forest_bases_t_12 many_ lines_ ([(0, (List.range 12))] : List (Nat × (List Nat))))
def R_law_forest_bases_t (ds : List D) (r : Var) : Prop := ∃ (many_ : Nat) (lines_ : (List (Nat × Nat))), ok_law_forest_bases_t many_ lines_ ∧ ds = [eN many_, (eTup (eP eN eN)) lines_] ∧ r = (fun v => Var.ow ((eLst eN) v)) (m_law_forest_bases_t many_ lines_)
def R_law_forest_bases (ds : List D) (r : Var) : Prop := R_law_forest_bases_l ds r ∨ R_law_forest_bases_t ds r
theorem c_law_forest_bases {k : Nat} (F : FunD K "_law_forest_bases" "_law_forest_bases" (defArgs s_law_forest_bases) (defBody s_law_forest_bases) (defScope s_law_forest_bases) [] [] f fd) (hm : mg "_law_forest_bases" = some (.ref f)) (m_list : mg "list" = none) (m_max : mg "max" = none) (m_range : mg "range" = none) (F_law_count : Fc P w K mg base "_law_count" ["mask"] k (FP (R_law_count))) :
    Fc P w K mg base "_law_forest_bases" ["many", "lines"] (k + 1) (FP (R_law_forest_bases)) := by
  have Sc := sc_law_forest_bases
  refine fc_of F hm Sc (by decide) (fun _ _ _ _ _ _ us hl => match us, hl with | [_, _], _ => rfl) (FP.par (n := 2) fun ds r h => by rcases h with h | h <;> (obtain ⟨_, _, _, rfl, _⟩ := h; rfl)) fun cdv A outer s H E hr as r as' hS => ?_
  obtain ⟨ds, e1, e2, h⟩ := hS
  have pk : ∀ ρ, ParOk as as' ρ := fun ρ => FP.ok e1 e2
  subst e1
  have hu := hr.units
  show XS _ _ _ (kF r (ParOk _ as'))
  generalize ParOk _ as' = PK at pk ⊢
  rcases h with h | h
  · obtain ⟨many_, lines_, ho, e3, e4⟩ := h
    subst e3 e4
    show XS _ _ [.fz (eN many_), .fz ((eLst (eP eN eN)) lines_), .un, .un, .un, .un, .un, .un, .un, .un, .un] (kF ((fun v => Var.ow ((eLst eN) v)) (m_law_forest_bases_l many_ lines_)) PK)
    exact (xs_setG 2 (fun v => Var.ow ((eDct (eLst eN)) v)) ([(0, (List.range 12))] : List (Nat × (List Nat))) (fun kept_1 => ok_law_forest_bases_l_12 many_ lines_ kept_1) (fun kept_1 => [.fz (eN many_), .fz ((eLst (eP eN eN)) lines_), .ow ((eDct (eLst eN)) kept_1), .un, .un, .un, .un, .un, .un, .un, .un]) (fun kept_1 => kF ((fun v => Var.ow ((eLst eN) v)) (m_law_forest_bases_l_11 many_ lines_ kept_1)) PK) (ev_dict1 (l := []) (α := (List Nat)) (enc := (eLst eN)) (n := 0) (x := (List.range 12)) (ev_fr (ev_lstRg rfl (by rfl) m_list (by rfl) m_range (ev_natC (n := 12)) (Nat.le_trans ho.1 (by decide))))) Sc.nd rfl (by first | exact .inl rfl | exact .inr rfl) ho.2 (fun kept_1 hv => (xs_forPG (js := [3]) (rgN 1 (1 <<< many_)) eN (fun s2 : ((List (Nat × (List Nat)))) => [.fz (eN many_), .fz ((eLst (eP eN eN)) lines_), .ow ((eDct (eLst eN)) s2), .un, .un, .un, .un, .un, .un, .un, .un]) (fun s2 x3 => st_law_forest_bases_l_5 lines_ s2 x3) kept_1 (fun s2 x3 => sk_law_forest_bases_l_6 lines_ s2 x3) (fun s4 => ok_law_forest_bases_l_10 s4) (fun s4 => kF ((fun v => Var.ow ((eLst eN) v)) (m_law_forest_bases_l_9 s4)) PK) (ei_range2N (by rfl) m_range (ea_cons (ev_natC (n := 1)) (ea_1 (ev_shlN (i := 1) (j := many_) (ev_natC (n := 1)) (ev_var (i := 0) rfl rfl) hv.1 (by decide)))) hv.2.1) hv.2.2.1 (fun s2 x3 hx ho => (xg_name 3 Sc.nd rfl (by first | exact .inl rfl | exact .inr rfl) (xs_set 4 [.fz (eN many_), .fz ((eLst (eP eN eN)) lines_), .ow ((eDct (eLst eN)) s2), .fz (eN x3), .fz (eN (lowb x3)), .un, .un, .un, .un, .un, .un] (ev_lowb (n := x3) (ev_var (i := 3) rfl rfl) (ev_sub (i := 0) (j := (x3 : Int)) ev_int (ev_var (i := 3) rfl rfl))) Sc.nd rfl (by first | exact .inl rfl | exact .inr rfl) (xs_setG 5 (fun v => Var.fz ((eO (eLst eN)) v)) (dlook s2 (x3 ^^^ (lowb x3))) (fun where_5 => ok_law_forest_bases_l_4 lines_ s2 x3 where_5) (fun where_5 => [.fz (eN many_), .fz ((eLst (eP eN eN)) lines_), .ow ((eDct (eLst eN)) s2), .fz (eN x3), .fz (eN (lowb x3)), .fz ((eO (eLst eN)) where_5), .un, .un, .un, .un, .un]) (fun where_5 => kL ((fun s2 : ((List (Nat × (List Nat)))) => [.fz (eN many_), .fz ((eLst (eP eN eN)) lines_), .ow ((eDct (eLst eN)) s2), .un, .un, .un, .un, .un, .un, .un, .un]) (m_law_forest_bases_l_3 lines_ s2 x3 where_5))) (ev_dgetO (w := false) (i := 2) (enc := (eLst eN)) (l := s2) (k := (x3 ^^^ (lowb x3))) (Nat.lt_of_le_of_lt (Nat.add_le_add_left (by decide) _) hu) rfl rfl (ev_xorN (i := x3) (j := (lowb x3)) (ev_var (i := 3) rfl rfl) (ev_var (i := 4) rfl rfl))) Sc.nd rfl (by first | exact .inl rfl | exact .inr rfl) ho (fun where_5 hv => (xs_ifE (et_cp (cp_isnO (fun _ => rfl) (ev_var (i := 5) rfl rfl))) (fun hc6 => XS.ift (fun w => kL ((fun s2 : ((List (Nat × (List Nat)))) => [.fz (eN many_), .fz ((eLst (eP eN eN)) lines_), .ow ((eDct (eLst eN)) s2), .un, .un, .un, .un, .un, .un, .un, .un]) w)) hc6 (xs_nar 5 rfl hc6 (xs_setG 6 (fun v => Var.fz ((eP eN eN) v)) (nth lines_ ((bits (lowb x3)) - 1)) (fun line_7 => ok_law_forest_bases_l_2 s2 where_5 line_7) (fun line_7 => [.fz (eN many_), .fz ((eLst (eP eN eN)) lines_), .ow ((eDct (eLst eN)) s2), .fz (eN x3), .fz (eN (lowb x3)), .fz ((eLst eN) (where_5.getD default)), .fz ((eP eN eN) line_7), .un, .un, .un, .un]) (fun line_7 => kL ((fun s2 : ((List (Nat × (List Nat)))) => [.fz (eN many_), .fz ((eLst (eP eN eN)) lines_), .ow ((eDct (eLst eN)) s2), .un, .un, .un, .un, .un, .un, .un, .un]) (m_law_forest_bases_l_1 s2 x3 where_5 line_7))) (ev_ixLN (enc := (eP eN eN)) (l := lines_) (i := ((bits (lowb x3)) - 1)) (ev_var (i := 1) rfl rfl) (ev_subN (i := (bits (lowb x3))) (j := 1) (ev_bits (n := (lowb x3)) (ev_var (i := 4) rfl rfl)) (ev_natC (n := 1)) (hv hc6).1) (hv hc6).2.1) Sc.nd rfl (by first | exact .inl rfl | exact .inr rfl) (hv hc6).2.2 (fun line_7 hv => (xs_unp (js := [7, 8]) [.fz (eN many_), .fz ((eLst (eP eN eN)) lines_), .ow ((eDct (eLst eN)) s2), .fz (eN x3), .fz (eN (lowb x3)), .fz ((eLst eN) (where_5.getD default)), .fz ((eP eN eN) line_7), .fz (eN (((nth (where_5.getD default) line_7.1), (nth (where_5.getD default) line_7.2)).1)), .fz (eN (((nth (where_5.getD default) line_7.1), (nth (where_5.getD default) line_7.2)).2)), .un, .un] (ev_tup (ea_cons (ev_ixLN (enc := eN) (l := (where_5.getD default)) (i := line_7.1) (ev_var (i := 5) rfl rfl) (ev_ixT (ev_var (i := 6) rfl rfl) (ev_natC (n := 0)) rfl) hv.1) (ea_cons (ev_ixLN (enc := eN) (l := (where_5.getD default)) (i := line_7.2) (ev_var (i := 5) rfl rfl) (ev_ixT (ev_var (i := 6) rfl rfl) (ev_natC (n := 1)) rfl) hv.2.1) ea_nil)) (Nat.le_of_ble_eq_true rfl)) (xg_tup (js := [7, 8]) rfl (xgs_cons (js := [7]) (ks := [8]) (xg_name 7 Sc.nd rfl (by first | exact .inl rfl | exact .inr rfl) (xgs_cons (js := [8]) (ks := []) (xg_name 8 Sc.nd rfl (by first | exact .inl rfl | exact .inr rfl) (xgs_nil rfl)))))) (xs_ifE (et_cp (cp_neN (i := ((nth (where_5.getD default) line_7.1), (nth (where_5.getD default) line_7.2)).1) (j := ((nth (where_5.getD default) line_7.1), (nth (where_5.getD default) line_7.2)).2) (ev_var (i := 7) rfl rfl) (ev_var (i := 8) rfl rfl))) (fun hc8 => XS.ift (fun w => kL ((fun s2 : ((List (Nat × (List Nat)))) => [.fz (eN many_), .fz ((eLst (eP eN eN)) lines_), .ow ((eDct (eLst eN)) s2), .un, .un, .un, .un, .un, .un, .un, .un]) w)) hc8 (xs_dput (w := false) 2 [.fz (eN many_), .fz ((eLst (eP eN eN)) lines_), .ow ((eDct (eLst eN)) (dput s2 x3 (((where_5.getD default)).map (fun x9 => (if (decide (x9 = ((nth (where_5.getD default) line_7.1), (nth (where_5.getD default) line_7.2)).2)) = true then ((nth (where_5.getD default) line_7.1), (nth (where_5.getD default) line_7.2)).1 else x9))))), .fz (eN x3), .fz (eN (lowb x3)), .fz ((eLst eN) (where_5.getD default)), .fz ((eP eN eN) line_7), .fz (eN (((nth (where_5.getD default) line_7.1), (nth (where_5.getD default) line_7.2)).1)), .fz (eN (((nth (where_5.getD default) line_7.1), (nth (where_5.getD default) line_7.2)).2)), .un, .un] (Nat.lt_of_le_of_lt (Nat.add_le_add_left (by decide) _) hu) rfl (ev_fr (ev_lcM (own := [("spot", 10)]) (js := [10]) ((where_5.getD default)) eN eN (fun x9 => [.fz (eN many_), .fz ((eLst (eP eN eN)) lines_), .ow ((eDct (eLst eN)) s2), .fz (eN x3), .fz (eN (lowb x3)), .fz ((eLst eN) (where_5.getD default)), .fz ((eP eN eN) line_7), .fz (eN (((nth (where_5.getD default) line_7.1), (nth (where_5.getD default) line_7.2)).1)), .fz (eN (((nth (where_5.getD default) line_7.1), (nth (where_5.getD default) line_7.2)).2)), .un, .fz (eN x9)]) (fun x9 => (if (decide (x9 = ((nth (where_5.getD default) line_7.1), (nth (where_5.getD default) line_7.2)).2)) = true then ((nth (where_5.getD default) line_7.1), (nth (where_5.getD default) line_7.2)).1 else x9)) rfl Sc.nd (ei_list (ev_var (i := 5) rfl rfl)) (blkOk_by (own := [("spot", 10)]) (by kernel_rfl)) (by decide) (fun _ _ => rfl) (fun x9 _ _ _ _ _ _ => (xg_name 10 Sc.nd rfl (by first | exact .inl rfl | exact .inr rfl) rfl)) (fun x9 hx9 _ _ _ _ _ => (ev_ifT (enc := fun v => Var.fz (eN v)) (et_cp (cp_eqN (i := x9) (j := ((nth (where_5.getD default) line_7.1), (nth (where_5.getD default) line_7.2)).2) (ev_var (i := 10) rfl rfl) (ev_var (i := 8) rfl rfl))) (fun hc => (ev_var (i := 7) rfl rfl)) (fun hc => (ev_var (i := 10) rfl rfl)))) (Nat.lt_of_le_of_lt (hv.2.2 hc8).1 (by decide)))) rfl (ev_var (i := 3) rfl rfl) (hv.2.2 hc8).2 (xs_un 8 (xs_un 7 (xs_un 6 (xs_un 5 (xs_un 4 (xs_un 3 (xs_nil rfl))))))))) (fun hc8 => XS.iff (fun w => kL ((fun s2 : ((List (Nat × (List Nat)))) => [.fz (eN many_), .fz ((eLst (eP eN eN)) lines_), .ow ((eDct (eLst eN)) s2), .un, .un, .un, .un, .un, .un, .un, .un]) w)) hc8 (xs_un 8 (xs_un 7 (xs_un 6 (xs_un 5 (xs_un 4 (xs_un 3 (xs_nil rfl)))))))))))))) (fun hc6 => XS.iff (fun w => kL ((fun s2 : ((List (Nat × (List Nat)))) => [.fz (eN many_), .fz ((eLst (eP eN eN)) lines_), .ow ((eDct (eLst eN)) s2), .un, .un, .un, .un, .un, .un, .un, .un]) w)) hc6 (xs_un 5 (xs_un 4 (xs_un 3 (xs_nil rfl))))))))))) hv.2.2.2 (fun s4 hv => (xs_lock 2 rfl (xs_setG 9 (fun v => Var.fz (eN v)) (maxL ltN ((s4.map (·.1)).map (fun x10 => (m_law_count x10)))) (fun most_11 => ok_law_forest_bases_l_8 s4 most_11) (fun most_11 => [.fz (eN many_), .fz ((eLst (eP eN eN)) lines_), .fz ((eDcz (eLst eN)) s4), .un, .un, .un, .un, .un, .un, .fz (eN most_11), .un]) (fun most_11 => kF ((fun v => Var.ow ((eLst eN) v)) (m_law_forest_bases_l_7 s4 most_11)) PK) (ev_maxT Dat.nat (by decide) hu (by rfl) m_max rfl (ea_1 (ev_fr (ev_lcM (own := [("mask", 3)]) (js := [3]) (s4.map (·.1)) eN eN (fun x10 => [.fz (eN many_), .fz ((eLst (eP eN eN)) lines_), .fz ((eDcz (eLst eN)) s4), .fz (eN x10), .un, .un, .un, .un, .un, .un, .un]) (fun x10 => (m_law_count x10)) rfl Sc.nd (ei_keys (enc := (eLst eN)) (l := s4) (ev_var (i := 2) rfl rfl)) (blkOk_by (own := [("mask", 3)]) (by kernel_rfl)) (by decide) (fun _ _ => rfl) (fun x10 _ _ _ _ _ _ => (xg_name 3 Sc.nd rfl (by first | exact .inl rfl | exact .inr rfl) rfl)) (fun x10 hx10 _ _ _ _ _ => (ev_call F_law_count hr (by rfl) pass0 (ea_cons (ev_var (i := 3) rfl rfl) ea_nil) (FP.mk ⟨x10, (hv.2.1 x10 hx10), rfl, rfl⟩))) (Nat.lt_of_le_of_lt hv.1 (by decide))))) hv.2.2.1) Sc.nd rfl (by first | exact .inl rfl | exact .inr rfl) hv.2.2.2 (fun most_11 hv => (xs_one (x1_ret (ev_lcF (own := [("mask", 3)]) (js := [3]) (s4.map (·.1)) eN eN (fun x12 => [.fz (eN many_), .fz ((eLst (eP eN eN)) lines_), .fz ((eDcz (eLst eN)) s4), .fz (eN x12), .un, .un, .un, .un, .un, .fz (eN most_11), .un]) (fun x12 => (decide ((m_law_count x12) = most_11))) (fun x12 => x12) rfl Sc.nd (ei_keys (enc := (eLst eN)) (l := s4) (ev_var (i := 2) rfl rfl)) (blkOk_by (own := [("mask", 3)]) (by kernel_rfl)) (by decide) (fun _ _ => rfl) (fun x12 _ _ _ _ _ _ => (xg_name 3 Sc.nd rfl (by first | exact .inl rfl | exact .inr rfl) rfl)) (fun x12 hx12 _ _ _ _ _ => ets_one (et_cp (cp_eqN (i := (m_law_count x12)) (j := most_11) (ev_call F_law_count hr (by rfl) pass0 (ea_cons (ev_var (i := 3) rfl rfl) ea_nil) (FP.mk ⟨x12, (hv.2 x12 hx12), rfl, rfl⟩)) (ev_var (i := 9) rfl rfl)))) (fun x12 hx12 hqx12 _ _ _ _ _ => (ev_var (i := 3) rfl rfl)) (Nat.lt_of_le_of_lt hv.1 (by decide))) ⟨rfl, pk _⟩)))))))))
  · obtain ⟨many_, lines_, ho, e3, e4⟩ := h
    subst e3 e4
    show XS _ _ [.fz (eN many_), .fz ((eTup (eP eN eN)) lines_), .un, .un, .un, .un, .un, .un, .un, .un, .un] (kF ((fun v => Var.ow ((eLst eN) v)) (m_law_forest_bases_t many_ lines_)) PK)
    exact (xs_setG 2 (fun v => Var.ow ((eDct (eLst eN)) v)) ([(0, (List.range 12))] : List (Nat × (List Nat))) (fun kept_1 => ok_law_forest_bases_t_12 many_ lines_ kept_1) (fun kept_1 => [.fz (eN many_), .fz ((eTup (eP eN eN)) lines_), .ow ((eDct (eLst eN)) kept_1), .un, .un, .un, .un, .un, .un, .un, .un]) (fun kept_1 => kF ((fun v => Var.ow ((eLst eN) v)) (m_law_forest_bases_t_11 many_ lines_ kept_1)) PK) (ev_dict1 (l := []) (α := (List Nat)) (enc := (eLst eN)) (n := 0) (x := (List.range 12)) (ev_fr (ev_lstRg rfl (by rfl) m_list (by rfl) m_range (ev_natC (n := 12)) (Nat.le_trans ho.1 (by decide))))) Sc.nd rfl (by first | exact .inl rfl | exact .inr rfl) ho.2 (fun kept_1 hv => (xs_forPG (js := [3]) (rgN 1 (1 <<< many_)) eN (fun s2 : ((List (Nat × (List Nat)))) => [.fz (eN many_), .fz ((eTup (eP eN eN)) lines_), .ow ((eDct (eLst eN)) s2), .un, .un, .un, .un, .un, .un, .un, .un]) (fun s2 x3 => st_law_forest_bases_t_5 lines_ s2 x3) kept_1 (fun s2 x3 => sk_law_forest_bases_t_6 lines_ s2 x3) (fun s4 => ok_law_forest_bases_t_10 s4) (fun s4 => kF ((fun v => Var.ow ((eLst eN) v)) (m_law_forest_bases_t_9 s4)) PK) (ei_range2N (by rfl) m_range (ea_cons (ev_natC (n := 1)) (ea_1 (ev_shlN (i := 1) (j := many_) (ev_natC (n := 1)) (ev_var (i := 0) rfl rfl) hv.1 (by decide)))) hv.2.1) hv.2.2.1 (fun s2 x3 hx ho => (xg_name 3 Sc.nd rfl (by first | exact .inl rfl | exact .inr rfl) (xs_set 4 [.fz (eN many_), .fz ((eTup (eP eN eN)) lines_), .ow ((eDct (eLst eN)) s2), .fz (eN x3), .fz (eN (lowb x3)), .un, .un, .un, .un, .un, .un] (ev_lowb (n := x3) (ev_var (i := 3) rfl rfl) (ev_sub (i := 0) (j := (x3 : Int)) ev_int (ev_var (i := 3) rfl rfl))) Sc.nd rfl (by first | exact .inl rfl | exact .inr rfl) (xs_setG 5 (fun v => Var.fz ((eO (eLst eN)) v)) (dlook s2 (x3 ^^^ (lowb x3))) (fun where_5 => ok_law_forest_bases_t_4 lines_ s2 x3 where_5) (fun where_5 => [.fz (eN many_), .fz ((eTup (eP eN eN)) lines_), .ow ((eDct (eLst eN)) s2), .fz (eN x3), .fz (eN (lowb x3)), .fz ((eO (eLst eN)) where_5), .un, .un, .un, .un, .un]) (fun where_5 => kL ((fun s2 : ((List (Nat × (List Nat)))) => [.fz (eN many_), .fz ((eTup (eP eN eN)) lines_), .ow ((eDct (eLst eN)) s2), .un, .un, .un, .un, .un, .un, .un, .un]) (m_law_forest_bases_t_3 lines_ s2 x3 where_5))) (ev_dgetO (w := false) (i := 2) (enc := (eLst eN)) (l := s2) (k := (x3 ^^^ (lowb x3))) (Nat.lt_of_le_of_lt (Nat.add_le_add_left (by decide) _) hu) rfl rfl (ev_xorN (i := x3) (j := (lowb x3)) (ev_var (i := 3) rfl rfl) (ev_var (i := 4) rfl rfl))) Sc.nd rfl (by first | exact .inl rfl | exact .inr rfl) ho (fun where_5 hv => (xs_ifE (et_cp (cp_isnO (fun _ => rfl) (ev_var (i := 5) rfl rfl))) (fun hc6 => XS.ift (fun w => kL ((fun s2 : ((List (Nat × (List Nat)))) => [.fz (eN many_), .fz ((eTup (eP eN eN)) lines_), .ow ((eDct (eLst eN)) s2), .un, .un, .un, .un, .un, .un, .un, .un]) w)) hc6 (xs_nar 5 rfl hc6 (xs_setG 6 (fun v => Var.fz ((eP eN eN) v)) (nth lines_ ((bits (lowb x3)) - 1)) (fun line_7 => ok_law_forest_bases_t_2 s2 where_5 line_7) (fun line_7 => [.fz (eN many_), .fz ((eTup (eP eN eN)) lines_), .ow ((eDct (eLst eN)) s2), .fz (eN x3), .fz (eN (lowb x3)), .fz ((eLst eN) (where_5.getD default)), .fz ((eP eN eN) line_7), .un, .un, .un, .un]) (fun line_7 => kL ((fun s2 : ((List (Nat × (List Nat)))) => [.fz (eN many_), .fz ((eTup (eP eN eN)) lines_), .ow ((eDct (eLst eN)) s2), .un, .un, .un, .un, .un, .un, .un, .un]) (m_law_forest_bases_t_1 s2 x3 where_5 line_7))) (ev_ixTN (enc := (eP eN eN)) (l := lines_) (i := ((bits (lowb x3)) - 1)) (ev_var (i := 1) rfl rfl) (ev_subN (i := (bits (lowb x3))) (j := 1) (ev_bits (n := (lowb x3)) (ev_var (i := 4) rfl rfl)) (ev_natC (n := 1)) (hv hc6).1) (hv hc6).2.1) Sc.nd rfl (by first | exact .inl rfl | exact .inr rfl) (hv hc6).2.2 (fun line_7 hv => (xs_unp (js := [7, 8]) [.fz (eN many_), .fz ((eTup (eP eN eN)) lines_), .ow ((eDct (eLst eN)) s2), .fz (eN x3), .fz (eN (lowb x3)), .fz ((eLst eN) (where_5.getD default)), .fz ((eP eN eN) line_7), .fz (eN (((nth (where_5.getD default) line_7.1), (nth (where_5.getD default) line_7.2)).1)), .fz (eN (((nth (where_5.getD default) line_7.1), (nth (where_5.getD default) line_7.2)).2)), .un, .un] (ev_tup (ea_cons (ev_ixLN (enc := eN) (l := (where_5.getD default)) (i := line_7.1) (ev_var (i := 5) rfl rfl) (ev_ixT (ev_var (i := 6) rfl rfl) (ev_natC (n := 0)) rfl) hv.1) (ea_cons (ev_ixLN (enc := eN) (l := (where_5.getD default)) (i := line_7.2) (ev_var (i := 5) rfl rfl) (ev_ixT (ev_var (i := 6) rfl rfl) (ev_natC (n := 1)) rfl) hv.2.1) ea_nil)) (Nat.le_of_ble_eq_true rfl)) (xg_tup (js := [7, 8]) rfl (xgs_cons (js := [7]) (ks := [8]) (xg_name 7 Sc.nd rfl (by first | exact .inl rfl | exact .inr rfl) (xgs_cons (js := [8]) (ks := []) (xg_name 8 Sc.nd rfl (by first | exact .inl rfl | exact .inr rfl) (xgs_nil rfl)))))) (xs_ifE (et_cp (cp_neN (i := ((nth (where_5.getD default) line_7.1), (nth (where_5.getD default) line_7.2)).1) (j := ((nth (where_5.getD default) line_7.1), (nth (where_5.getD default) line_7.2)).2) (ev_var (i := 7) rfl rfl) (ev_var (i := 8) rfl rfl))) (fun hc8 => XS.ift (fun w => kL ((fun s2 : ((List (Nat × (List Nat)))) => [.fz (eN many_), .fz ((eTup (eP eN eN)) lines_), .ow ((eDct (eLst eN)) s2), .un, .un, .un, .un, .un, .un, .un, .un]) w)) hc8 (xs_dput (w := false) 2 [.fz (eN many_), .fz ((eTup (eP eN eN)) lines_), .ow ((eDct (eLst eN)) (dput s2 x3 (((where_5.getD default)).map (fun x9 => (if (decide (x9 = ((nth (where_5.getD default) line_7.1), (nth (where_5.getD default) line_7.2)).2)) = true then ((nth (where_5.getD default) line_7.1), (nth (where_5.getD default) line_7.2)).1 else x9))))), .fz (eN x3), .fz (eN (lowb x3)), .fz ((eLst eN) (where_5.getD default)), .fz ((eP eN eN) line_7), .fz (eN (((nth (where_5.getD default) line_7.1), (nth (where_5.getD default) line_7.2)).1)), .fz (eN (((nth (where_5.getD default) line_7.1), (nth (where_5.getD default) line_7.2)).2)), .un, .un] (Nat.lt_of_le_of_lt (Nat.add_le_add_left (by decide) _) hu) rfl (ev_fr (ev_lcM (own := [("spot", 10)]) (js := [10]) ((where_5.getD default)) eN eN (fun x9 => [.fz (eN many_), .fz ((eTup (eP eN eN)) lines_), .ow ((eDct (eLst eN)) s2), .fz (eN x3), .fz (eN (lowb x3)), .fz ((eLst eN) (where_5.getD default)), .fz ((eP eN eN) line_7), .fz (eN (((nth (where_5.getD default) line_7.1), (nth (where_5.getD default) line_7.2)).1)), .fz (eN (((nth (where_5.getD default) line_7.1), (nth (where_5.getD default) line_7.2)).2)), .un, .fz (eN x9)]) (fun x9 => (if (decide (x9 = ((nth (where_5.getD default) line_7.1), (nth (where_5.getD default) line_7.2)).2)) = true then ((nth (where_5.getD default) line_7.1), (nth (where_5.getD default) line_7.2)).1 else x9)) rfl Sc.nd (ei_list (ev_var (i := 5) rfl rfl)) (blkOk_by (own := [("spot", 10)]) (by kernel_rfl)) (by decide) (fun _ _ => rfl) (fun x9 _ _ _ _ _ _ => (xg_name 10 Sc.nd rfl (by first | exact .inl rfl | exact .inr rfl) rfl)) (fun x9 hx9 _ _ _ _ _ => (ev_ifT (enc := fun v => Var.fz (eN v)) (et_cp (cp_eqN (i := x9) (j := ((nth (where_5.getD default) line_7.1), (nth (where_5.getD default) line_7.2)).2) (ev_var (i := 10) rfl rfl) (ev_var (i := 8) rfl rfl))) (fun hc => (ev_var (i := 7) rfl rfl)) (fun hc => (ev_var (i := 10) rfl rfl)))) (Nat.lt_of_le_of_lt (hv.2.2 hc8).1 (by decide)))) rfl (ev_var (i := 3) rfl rfl) (hv.2.2 hc8).2 (xs_un 8 (xs_un 7 (xs_un 6 (xs_un 5 (xs_un 4 (xs_un 3 (xs_nil rfl))))))))) (fun hc8 => XS.iff (fun w => kL ((fun s2 : ((List (Nat × (List Nat)))) => [.fz (eN many_), .fz ((eTup (eP eN eN)) lines_), .ow ((eDct (eLst eN)) s2), .un, .un, .un, .un, .un, .un, .un, .un]) w)) hc8 (xs_un 8 (xs_un 7 (xs_un 6 (xs_un 5 (xs_un 4 (xs_un 3 (xs_nil rfl)))))))))))))) (fun hc6 => XS.iff (fun w => kL ((fun s2 : ((List (Nat × (List Nat)))) => [.fz (eN many_), .fz ((eTup (eP eN eN)) lines_), .ow ((eDct (eLst eN)) s2), .un, .un, .un, .un, .un, .un, .un, .un]) w)) hc6 (xs_un 5 (xs_un 4 (xs_un 3 (xs_nil rfl))))))))))) hv.2.2.2 (fun s4 hv => (xs_lock 2 rfl (xs_setG 9 (fun v => Var.fz (eN v)) (maxL ltN ((s4.map (·.1)).map (fun x10 => (m_law_count x10)))) (fun most_11 => ok_law_forest_bases_t_8 s4 most_11) (fun most_11 => [.fz (eN many_), .fz ((eTup (eP eN eN)) lines_), .fz ((eDcz (eLst eN)) s4), .un, .un, .un, .un, .un, .un, .fz (eN most_11), .un]) (fun most_11 => kF ((fun v => Var.ow ((eLst eN) v)) (m_law_forest_bases_t_7 s4 most_11)) PK) (ev_maxT Dat.nat (by decide) hu (by rfl) m_max rfl (ea_1 (ev_fr (ev_lcM (own := [("mask", 3)]) (js := [3]) (s4.map (·.1)) eN eN (fun x10 => [.fz (eN many_), .fz ((eTup (eP eN eN)) lines_), .fz ((eDcz (eLst eN)) s4), .fz (eN x10), .un, .un, .un, .un, .un, .un, .un]) (fun x10 => (m_law_count x10)) rfl Sc.nd (ei_keys (enc := (eLst eN)) (l := s4) (ev_var (i := 2) rfl rfl)) (blkOk_by (own := [("mask", 3)]) (by kernel_rfl)) (by decide) (fun _ _ => rfl) (fun x10 _ _ _ _ _ _ => (xg_name 3 Sc.nd rfl (by first | exact .inl rfl | exact .inr rfl) rfl)) (fun x10 hx10 _ _ _ _ _ => (ev_call F_law_count hr (by rfl) pass0 (ea_cons (ev_var (i := 3) rfl rfl) ea_nil) (FP.mk ⟨x10, (hv.2.1 x10 hx10), rfl, rfl⟩))) (Nat.lt_of_le_of_lt hv.1 (by decide))))) hv.2.2.1) Sc.nd rfl (by first | exact .inl rfl | exact .inr rfl) hv.2.2.2 (fun most_11 hv => (xs_one (x1_ret (ev_lcF (own := [("mask", 3)]) (js := [3]) (s4.map (·.1)) eN eN (fun x12 => [.fz (eN many_), .fz ((eTup (eP eN eN)) lines_), .fz ((eDcz (eLst eN)) s4), .fz (eN x12), .un, .un, .un, .un, .un, .fz (eN most_11), .un]) (fun x12 => (decide ((m_law_count x12) = most_11))) (fun x12 => x12) rfl Sc.nd (ei_keys (enc := (eLst eN)) (l := s4) (ev_var (i := 2) rfl rfl)) (blkOk_by (own := [("mask", 3)]) (by kernel_rfl)) (by decide) (fun _ _ => rfl) (fun x12 _ _ _ _ _ _ => (xg_name 3 Sc.nd rfl (by first | exact .inl rfl | exact .inr rfl) rfl)) (fun x12 hx12 _ _ _ _ _ => ets_one (et_cp (cp_eqN (i := (m_law_count x12)) (j := most_11) (ev_call F_law_count hr (by rfl) pass0 (ea_cons (ev_var (i := 3) rfl rfl) ea_nil) (FP.mk ⟨x12, (hv.2 x12 hx12), rfl, rfl⟩)) (ev_var (i := 9) rfl rfl)))) (fun x12 hx12 hqx12 _ _ _ _ _ => (ev_var (i := 3) rfl rfl)) (Nat.lt_of_le_of_lt hv.1 (by decide))) ⟨rfl, pk _⟩)))))))))
/-! ### law_drawn_lines -/
abbrev s_law_drawn_lines : Stmt := top 68
abbrev N_law_drawn_lines : List Str := ["source", "many", "spots", "found", "place", "start"]
theorem sc_law_drawn_lines : FnScope N_law_drawn_lines ["source", "many"] (defScope s_law_drawn_lines) := ⟨rfl, rfl, rfl, by decide +kernel, rfl, by decide +kernel, by decide +kernel⟩
def m_law_drawn_lines_1 (spots_1 : Nat) (s4 : ((List Int) × (List (Nat × Nat)))) (start_7 : Nat) : ((List Int) × (List (Nat × Nat))) := ((m_law_next ((m_law_next s4.1 (spots_1 + 1)).2) spots_1).2, (s4.2 ++ [(start_7, (((start_7 + 1) + (m_law_next ((m_law_next s4.1 (spots_1 + 1)).2) spots_1).1) % (spots_1 + 1)))]))
def ok_law_drawn_lines_2 (spots_1 : Nat) (s4 : ((List Int) × (List (Nat × Nat)))) (start_7 : Nat) : Prop := (ok_law_next ((m_law_next s4.1 (spots_1 + 1)).2) spots_1) ∧ (0 < (spots_1 + 1)) ∧ (s4.2.length ≤ 1000000)
def st_law_drawn_lines_3 (spots_1 : Nat) (s4 : ((List Int) × (List (Nat × Nat)))) (x5 : Nat) : ((List Int) × (List (Nat × Nat))) := (m_law_drawn_lines_1 spots_1 s4 ((m_law_next s4.1 (spots_1 + 1)).1))
def sk_law_drawn_lines_4 (spots_1 : Nat) (s4 : ((List Int) × (List (Nat × Nat)))) (x5 : Nat) : Prop := (ok_law_next s4.1 (spots_1 + 1)) ∧ (ok_law_drawn_lines_2 spots_1 s4 ((m_law_next s4.1 (spots_1 + 1)).1))
def m_law_drawn_lines_5 (s6 : ((List Int) × (List (Nat × Nat)))) : ((List (Nat × Nat)) × (List Int)) := (s6.2, s6.1)
def m_law_drawn_lines_6 (source_ : (List Int)) (many_ : Nat) (spots_1 : Nat) (found_3 : (List (Nat × Nat))) : ((List (Nat × Nat)) × (List Int)) := (m_law_drawn_lines_5 (List.foldl (fun s4 x5 => st_law_drawn_lines_3 spots_1 s4 x5) ((m_law_next ((m_law_next source_ 3).2) 2).2, found_3) (List.range many_)))
def ok_law_drawn_lines_7 (source_ : (List Int)) (many_ : Nat) (spots_1 : Nat) (found_3 : (List (Nat × Nat))) : Prop := (many_ < 2 ^ 62) ∧ (okF (fun s4 x5 => sk_law_drawn_lines_4 spots_1 s4 x5) (fun s4 x5 => st_law_drawn_lines_3 spots_1 s4 x5) (List.range many_) ((m_law_next ((m_law_next source_ 3).2) 2).2, found_3))
def wc_law_drawn_lines_8 (many_ : Nat) (s10 : ((List (Nat × Nat)) × (List Int))) : Bool := (decide (s10.1.length < many_))
def st_law_drawn_lines_9 (spots_1 : Nat) (s10 : ((List (Nat × Nat)) × (List Int))) : ((List (Nat × Nat)) × (List Int)) := ((s10.1 ++ [(if (decide ((m_law_next s10.2 2).1 = 0)) = true then (m_law_pick ((m_law_next s10.2 2).2) s10.1).1 else (0, (m_law_next ((m_law_next s10.2 2).2) (spots_1 + 1)).1))]), (if (decide ((m_law_next s10.2 2).1 = 0)) = true then (m_law_pick ((m_law_next s10.2 2).2) s10.1).2 else (m_law_next ((m_law_next s10.2 2).2) (spots_1 + 1)).2))
def sk_law_drawn_lines_10 (spots_1 : Nat) (s10 : ((List (Nat × Nat)) × (List Int))) : Prop := (ok_law_next s10.2 2) ∧ ((decide ((m_law_next s10.2 2).1 = 0)) = true → (ok_law_pick ((m_law_next s10.2 2).2) s10.1)) ∧ ((decide ((m_law_next s10.2 2).1 = 0)) = false → (ok_law_next ((m_law_next s10.2 2).2) (spots_1 + 1))) ∧ (s10.1.length ≤ 1000000)
def m_law_drawn_lines_11 (s13 : ((List (Nat × Nat)) × (List Int))) : ((List (Nat × Nat)) × (List Int)) := (s13.1, s13.2)
def m_law_drawn_lines_12 (source_ : (List Int)) (many_ : Nat) (spots_1 : Nat) (found_9 : (List (Nat × Nat))) : ((List (Nat × Nat)) × (List Int)) := (m_law_drawn_lines_11 (whl (fun s10 => wc_law_drawn_lines_8 many_ s10) (fun s10 => st_law_drawn_lines_9 spots_1 s10) (many_) (found_9, (m_law_next ((m_law_next source_ 3).2) 2).2)))
def ok_law_drawn_lines_13 (source_ : (List Int)) (many_ : Nat) (spots_1 : Nat) (found_9 : (List (Nat × Nat))) : Prop := (okW (fun _ => True) (fun s10 => sk_law_drawn_lines_10 spots_1 s10) (fun s10 => wc_law_drawn_lines_8 many_ s10) (fun s10 => st_law_drawn_lines_9 spots_1 s10) (many_) (found_9, (m_law_next ((m_law_next source_ 3).2) 2).2))
def m_law_drawn_lines_14 (source_ : (List Int)) (many_ : Nat) (spots_1 : Nat) : ((List (Nat × Nat)) × (List Int)) := (if (decide ((m_law_next ((m_law_next source_ 3).2) 2).1 = 0)) = true then (m_law_drawn_lines_6 source_ many_ spots_1 ([] : List (Nat × Nat))) else (m_law_drawn_lines_12 source_ many_ spots_1 ((List.range (min many_ (spots_1 + 1))).map (fun x8 => (x8, ((x8 + 1) % (spots_1 + 1)))))))
def ok_law_drawn_lines_15 (source_ : (List Int)) (many_ : Nat) (spots_1 : Nat) : Prop := (ok_law_next ((m_law_next source_ 3).2) 2) ∧ ((decide ((m_law_next ((m_law_next source_ 3).2) 2).1 = 0)) = true → (ok_law_drawn_lines_7 source_ many_ spots_1 ([] : List (Nat × Nat)))) ∧ ((decide ((m_law_next ((m_law_next source_ 3).2) 2).1 = 0)) = false → ((min many_ (spots_1 + 1)) < 2 ^ 62) ∧ ((List.range (min many_ (spots_1 + 1))).length ≤ 1000000) ∧ (∀ x8 ∈ List.range (min many_ (spots_1 + 1)), (0 < (spots_1 + 1))) ∧ (ok_law_drawn_lines_13 source_ many_ spots_1 ((List.range (min many_ (spots_1 + 1))).map (fun x8 => (x8, ((x8 + 1) % (spots_1 + 1)))))))
def m_law_drawn_lines (source_ : (List Int)) (many_ : Nat) : ((List (Nat × Nat)) × (List Int)) := (m_law_drawn_lines_14 source_ many_ (2 + (m_law_next source_ 3).1))
def ok_law_drawn_lines (source_ : (List Int)) (many_ : Nat) : Prop := (ok_law_next source_ 3) ∧ (ok_law_drawn_lines_15 source_ many_ (2 + (m_law_next source_ 3).1))
def R_law_drawn_lines (d0 : D) (ds : List D) (r : Var) (d1 : D) : Prop := ∃ (source_ : (List Int)) (many_ : Nat), ok_law_drawn_lines source_ many_ ∧ d0 = (eLst D.int) source_ ∧ ds = [eN many_] ∧ r = (fun v => Var.ow ((eLst (eP eN eN)) v)) (m_law_drawn_lines source_ many_).1 ∧ d1 = (eLst D.int) (m_law_drawn_lines source_ many_).2
theorem c_law_drawn_lines {k : Nat} (F : FunD K "_law_drawn_lines" "_law_drawn_lines" (defArgs s_law_drawn_lines) (defBody s_law_drawn_lines) (defScope s_law_drawn_lines) [] [] f fd) (hm : mg "_law_drawn_lines" = some (.ref f)) (m_int : mg "int" = none) (m_len : mg "len" = none) (m_min : mg "min" = none) (m_range : mg "range" = none) (F_law_next : Fc P w K mg base "_law_next" ["source", "many"] k (FI R_law_next)) (F_law_pick : Fc P w K mg base "_law_pick" ["source", "items"] k (FI2 R_law_pick)) :
    Fc P w K mg base "_law_drawn_lines" ["source", "many"] (k + 1) (FI (R_law_drawn_lines)) := by
  have Sc := sc_law_drawn_lines
  refine fc_of F hm Sc (by decide) (fun _ _ _ _ _ _ us hl => match us, hl with | [_, _], _ => rfl) (FI.par (n := 2) fun d0 ds r d1 h => by obtain ⟨_, _, _, _, rfl, _, _⟩ := h; rfl) fun cdv A outer s H E hr as r as' hS => ?_
  obtain ⟨d0, ds, d1, h, e1, e2⟩ := hS
  subst e1 e2
  have hu := hr.units
  obtain ⟨source_, many_, ho, e3, e4, e5, e6⟩ := h
  subst e3 e4 e5 e6
  refine XS.ofI (enc := (fun v => Var.ow ((eLst (eP eN eN)) v))) (encS := (eLst D.int)) (v := m_law_drawn_lines source_ many_) ?_
  show XS _ _ [.io ((eLst D.int) source_), .fz (eN many_), .un, .un, .un, .un] (kI (fun v => Var.ow ((eLst (eP eN eN)) v)) (eLst D.int) (m_law_drawn_lines source_ many_))
  exact (xs_setG 2 (fun v => Var.fz (eN v)) (2 + (m_law_next source_ 3).1) (fun spots_1 => ok_law_drawn_lines_15 source_ many_ spots_1) (fun spots_1 => [.io ((eLst D.int) ((m_law_next source_ 3).2)), .fz (eN many_), .fz (eN spots_1), .un, .un, .un]) (fun spots_1 => kI (fun v => Var.ow ((eLst (eP eN eN)) v)) (eLst D.int) (m_law_drawn_lines_14 source_ many_ spots_1)) (ev_addN (i := 2) (j := (m_law_next source_ 3).1) (ev_natC (n := 2)) (ev_callIo (w := true) (i := 0) F_law_next hr (by rfl) rfl rfl (ea_cons (ev_natC (n := 3)) ea_nil) rfl (FI.mk ⟨source_, 3, ho.1, rfl, rfl, rfl, rfl⟩))) Sc.nd rfl (by first | exact .inl rfl | exact .inr rfl) ho.2 (fun spots_1 hv => (xs_ifNi (et_cp (cp_eqN (i := (m_law_next ((m_law_next source_ 3).2) 2).1) (j := 0) (ev_callIo (w := true) (i := 0) F_law_next hr (by rfl) rfl rfl (ea_cons (ev_natC (n := 2)) ea_nil) rfl (FI.mk ⟨(m_law_next source_ 3).2, 2, hv.1, rfl, rfl, rfl, rfl⟩)) (ev_natC (n := 0)))) (fun hc2 => XS.ift (fun w => noNx (kI (fun v => Var.ow ((eLst (eP eN eN)) v)) (eLst D.int) w)) hc2 (xs_setG 3 (fun v => Var.ow ((eLst (eP eN eN)) v)) ([] : List (Nat × Nat)) (fun found_3 => ok_law_drawn_lines_7 source_ many_ spots_1 found_3) (fun found_3 => [.io ((eLst D.int) ((m_law_next ((m_law_next source_ 3).2) 2).2)), .fz (eN many_), .fz (eN spots_1), .ow ((eLst (eP eN eN)) found_3), .un, .un]) (fun found_3 => noNx (kI (fun v => Var.ow ((eLst (eP eN eN)) v)) (eLst D.int) (m_law_drawn_lines_6 source_ many_ spots_1 found_3))) (ev_lstT (eP eN eN) ([] : List (Nat × Nat)) ea_nil) Sc.nd rfl (by first | exact .inl rfl | exact .inr rfl) (hv.2.1 hc2) (fun found_3 hv => (xs_forPG (js := [4]) (List.range many_) eN (fun s4 : ((List Int) × (List (Nat × Nat))) => [.io ((eLst D.int) s4.1), .fz (eN many_), .fz (eN spots_1), .ow ((eLst (eP eN eN)) s4.2), .un, .un]) (fun s4 x5 => st_law_drawn_lines_3 spots_1 s4 x5) ((m_law_next ((m_law_next source_ 3).2) 2).2, found_3) (fun s4 x5 => sk_law_drawn_lines_4 spots_1 s4 x5) (fun _ => True) (fun s6 => noNx (kI (fun v => Var.ow ((eLst (eP eN eN)) v)) (eLst D.int) (m_law_drawn_lines_5 s6))) (ei_rangeN (by rfl) m_range (ea_1 (ev_var (i := 1) rfl rfl)) hv.1) hv.2 (fun s4 x5 hx ho => (xg_name 4 Sc.nd rfl (by first | exact .inl rfl | exact .inr rfl) (xs_setG 5 (fun v => Var.fz (eN v)) ((m_law_next s4.1 (spots_1 + 1)).1) (fun start_7 => ok_law_drawn_lines_2 spots_1 s4 start_7) (fun start_7 => [.io ((eLst D.int) ((m_law_next s4.1 (spots_1 + 1)).2)), .fz (eN many_), .fz (eN spots_1), .ow ((eLst (eP eN eN)) s4.2), .fz (eN x5), .fz (eN start_7)]) (fun start_7 => kL ((fun s4 : ((List Int) × (List (Nat × Nat))) => [.io ((eLst D.int) s4.1), .fz (eN many_), .fz (eN spots_1), .ow ((eLst (eP eN eN)) s4.2), .un, .un]) (m_law_drawn_lines_1 spots_1 s4 start_7))) (ev_callIo (w := true) (i := 0) F_law_next hr (by rfl) rfl rfl (ea_cons (ev_addN (i := spots_1) (j := 1) (ev_var (i := 2) rfl rfl) (ev_natC (n := 1))) ea_nil) rfl (FI.mk ⟨s4.1, (spots_1 + 1), ho.1, rfl, rfl, rfl, rfl⟩)) Sc.nd rfl (by first | exact .inl rfl | exact .inr rfl) ho.2 (fun start_7 hv => (xs_app (i := 3) (w := false) (z := (start_7, (((start_7 + 1) + (m_law_next ((m_law_next s4.1 (spots_1 + 1)).2) spots_1).1) % (spots_1 + 1)))) [.io ((eLst D.int) ((m_law_next ((m_law_next s4.1 (spots_1 + 1)).2) spots_1).2)), .fz (eN many_), .fz (eN spots_1), .ow ((eLst (eP eN eN)) (s4.2 ++ [(start_7, (((start_7 + 1) + (m_law_next ((m_law_next s4.1 (spots_1 + 1)).2) spots_1).1) % (spots_1 + 1)))])), .fz (eN x5), .fz (eN start_7)] rfl rfl (ev_tup (ea_cons (ev_var (i := 5) rfl rfl) (ea_cons (ev_modN (i := ((start_7 + 1) + (m_law_next ((m_law_next s4.1 (spots_1 + 1)).2) spots_1).1)) (j := (spots_1 + 1)) (ev_intN (n := ((start_7 + 1) + (m_law_next ((m_law_next s4.1 (spots_1 + 1)).2) spots_1).1)) (by rfl) m_int (ev_addN (i := (start_7 + 1)) (j := (m_law_next ((m_law_next s4.1 (spots_1 + 1)).2) spots_1).1) (ev_addN (i := start_7) (j := 1) (ev_var (i := 5) rfl rfl) (ev_natC (n := 1))) (ev_callIo (w := true) (i := 0) F_law_next hr (by rfl) rfl rfl (ea_cons (ev_var (i := 2) rfl rfl) ea_nil) rfl (FI.mk ⟨(m_law_next s4.1 (spots_1 + 1)).2, spots_1, hv.1, rfl, rfl, rfl, rfl⟩)))) (ev_addN (i := spots_1) (j := 1) (ev_var (i := 2) rfl rfl) (ev_natC (n := 1))) hv.2.1) ea_nil)) (Nat.le_of_ble_eq_true rfl)) rfl hv.2.2 (xs_un 5 (xs_un 4 (xs_nil rfl)))))))) trivial (fun s6 hv => (xs_one (x1_retMv 3 rfl rfl ⟨rfl, rfl⟩))))))) (fun hc2 => XS.iff (fun w => kI (fun v => Var.ow ((eLst (eP eN eN)) v)) (eLst D.int) w) hc2 (xs_setLcMo (own := [("place", 4)]) (js := [4]) 3 (List.range (min many_ (spots_1 + 1))) eN (eP eN eN) (fun x8 => [.io ((eLst D.int) ((m_law_next ((m_law_next source_ 3).2) 2).2)), .fz (eN many_), .fz (eN spots_1), .un, .fz (eN x8), .un]) (fun x8 => (x8, ((x8 + 1) % (spots_1 + 1)))) (fun found_9 => ok_law_drawn_lines_13 source_ many_ spots_1 found_9) (fun found_9 => [.io ((eLst D.int) ((m_law_next ((m_law_next source_ 3).2) 2).2)), .fz (eN many_), .fz (eN spots_1), .ow ((eLst (eP eN eN)) found_9), .un, .un]) (fun found_9 => kI (fun v => Var.ow ((eLst (eP eN eN)) v)) (eLst D.int) (m_law_drawn_lines_12 source_ many_ spots_1 found_9)) rfl Sc.nd rfl rfl (ei_rangeN (by rfl) m_range (ea_1 (ev_min2N (i := many_) (j := (spots_1 + 1)) rfl (by rfl) m_min (ea_cons (ev_var (i := 1) rfl rfl) (ea_1 (ev_addN (i := spots_1) (j := 1) (ev_var (i := 2) rfl rfl) (ev_natC (n := 1))))))) (hv.2.2 hc2).1) (blkOk_by (own := [("place", 4)]) (by kernel_rfl)) (by decide) (fun _ _ => rfl) (fun x8 _ _ _ _ _ _ => (xg_name 4 Sc.nd rfl (by first | exact .inl rfl | exact .inr rfl) rfl)) (fun x8 hx8 _ _ _ _ _ => (ev_tup (ea_cons (ev_var (i := 4) rfl rfl) (ea_cons (ev_modN (i := (x8 + 1)) (j := (spots_1 + 1)) (ev_intN (n := (x8 + 1)) (by rfl) m_int (ev_addN (i := x8) (j := 1) (ev_var (i := 4) rfl rfl) (ev_natC (n := 1)))) (ev_addN (i := spots_1) (j := 1) (ev_var (i := 2) rfl rfl) (ev_natC (n := 1))) ((hv.2.2 hc2).2.2.1 x8 hx8)) ea_nil)) (Nat.le_of_ble_eq_true rfl))) (Nat.lt_of_le_of_lt (hv.2.2 hc2).2.1 (by decide)) (hv.2.2 hc2).2.2.2 (fun found_9 hv => (xs_while (fun s10 => wc_law_drawn_lines_8 many_ s10) (fun s10 => st_law_drawn_lines_9 spots_1 s10) (many_) (found_9, (m_law_next ((m_law_next source_ 3).2) 2).2) (fun _ => True) (fun s10 => sk_law_drawn_lines_10 spots_1 s10) (fun s10 : ((List (Nat × Nat)) × (List Int)) => [.io ((eLst D.int) s10.2), .fz (eN many_), .fz (eN spots_1), .ow ((eLst (eP eN eN)) s10.1), .un, .un]) (fun _ => True) (fun s13 => kI (fun v => Var.ow ((eLst (eP eN eN)) v)) (eLst D.int) (m_law_drawn_lines_11 s13)) hv (fun s10 ho => (et_peek (et_cp (cp_ltN (i := s10.1.length) (j := many_) (ev_as (ev_len (by rfl) m_len (ea_1 (ev_var (i := 3) rfl rfl)) rfl) (by rw [List.length_map])) (ev_var (i := 1) rfl rfl))))) (fun s10 hw ho => (xs_app (i := 3) (w := false) (z := (if (decide ((m_law_next s10.2 2).1 = 0)) = true then (m_law_pick ((m_law_next s10.2 2).2) s10.1).1 else (0, (m_law_next ((m_law_next s10.2 2).2) (spots_1 + 1)).1))) [.io ((eLst D.int) (if (decide ((m_law_next s10.2 2).1 = 0)) = true then (m_law_pick ((m_law_next s10.2 2).2) s10.1).2 else (m_law_next ((m_law_next s10.2 2).2) (spots_1 + 1)).2)), .fz (eN many_), .fz (eN spots_1), .ow ((eLst (eP eN eN)) (s10.1 ++ [(if (decide ((m_law_next s10.2 2).1 = 0)) = true then (m_law_pick ((m_law_next s10.2 2).2) s10.1).1 else (0, (m_law_next ((m_law_next s10.2 2).2) (spots_1 + 1)).1))])), .un, .un] rfl rfl (ev_ifIO (encV := fun v => Var.fz ((eP eN eN) v)) (va := (m_law_pick ((m_law_next s10.2 2).2) s10.1).1) (vb := (0, (m_law_next ((m_law_next s10.2 2).2) (spots_1 + 1)).1)) (sa := (m_law_pick ((m_law_next s10.2 2).2) s10.1).2) (sb := (m_law_next ((m_law_next s10.2 2).2) (spots_1 + 1)).2) (fun z11 : (List Int) => [.io ((eLst D.int) z11), .fz (eN many_), .fz (eN spots_1), .ow ((eLst (eP eN eN)) s10.1), .un, .un]) (et_cp (cp_eqN (i := (m_law_next s10.2 2).1) (j := 0) (ev_callIo (w := true) (i := 0) F_law_next hr (by rfl) rfl rfl (ea_cons (ev_natC (n := 2)) ea_nil) rfl (FI.mk ⟨s10.2, 2, ho.1, rfl, rfl, rfl, rfl⟩)) (ev_natC (n := 0)))) (fun hc12 => (ev_callIo2 (w := true) (w2 := false) (i := 0) (j := 3) F_law_pick hr (by rfl) rfl rfl rfl rfl (by decide) ⟨_, _, _, ⟨(m_law_next s10.2 2).2, s10.1, (ho.2.1 hc12), rfl, rfl, rfl, rfl⟩, rfl, rfl⟩)) (fun hc12 => (ev_tup (ea_cons (ev_natC (n := 0)) (ea_cons (ev_callIo (w := true) (i := 0) F_law_next hr (by rfl) rfl rfl (ea_cons (ev_addN (i := spots_1) (j := 1) (ev_var (i := 2) rfl rfl) (ev_natC (n := 1))) ea_nil) rfl (FI.mk ⟨(m_law_next s10.2 2).2, (spots_1 + 1), (ho.2.2.1 hc12), rfl, rfl, rfl, rfl⟩)) ea_nil)) (Nat.le_of_ble_eq_true rfl)))) rfl ho.2.2.2 (xs_nil rfl))) trivial (fun s13 hv => (xs_one (x1_retMv 3 rfl rfl ⟨rfl, rfl⟩))))))))))
/-! ### law_column_bases -/
abbrev s_law_column_bases : Stmt := top 69
abbrev N_law_column_bases : List Str := ["many", "columns", "free", "mask", "total", "is_free", "place", "most"]
theorem sc_law_column_bases : FnScope N_law_column_bases ["many", "columns"] (defScope s_law_column_bases) := ⟨rfl, rfl, rfl, by decide +kernel, rfl, by decide +kernel, by decide +kernel⟩
def m_law_column_bases_1 (total_9 : Nat) (is_fre_10 : Bool) : (Nat × Bool) := (total_9, is_fre_10)
def m_law_column_bases_2 (s2 : ((List Nat))) (x3 : Nat) (s5 : (Nat × Bool)) (x6 : Nat) (total_9 : Nat) : (Nat × Bool) := (m_law_column_bases_1 total_9 (s5.2 && (decide ((x3 ^^^ (1 <<< x6)) ∈ s2))))
def ok_law_column_bases_3 (s5 : (Nat × Bool)) (x6 : Nat) (total_9 : Nat) : Prop := (s5.2 = true → (x6 ≤ 1000000))
def st_law_column_bases_4 (columns_ : (List Nat)) (s2 : ((List Nat))) (x3 : Nat) (s5 : (Nat × Bool)) (x6 : Nat) : (Nat × Bool) := (if (decide (((x3 >>> x6) &&& 1) = 1)) = true then (m_law_column_bases_2 s2 x3 s5 x6 (s5.1 ^^^ (nth columns_ x6))) else (s5.1, s5.2))
def sk_law_column_bases_5 (columns_ : (List Nat)) (x3 : Nat) (s5 : (Nat × Bool)) (x6 : Nat) : Prop := ((decide (((x3 >>> x6) &&& 1) = 1)) = true → (x6 < columns_.length) ∧ (ok_law_column_bases_3 s5 x6 (s5.1 ^^^ (nth columns_ x6))))
def m_law_column_bases_6 (s2 : ((List Nat))) (x3 : Nat) (s7 : (Nat × Bool)) : ((List Nat)) := (if (s7.2 && (!decide (s7.1 = 0))) = true then (s2 ++ [x3]) else s2)
def ok_law_column_bases_7 (s2 : ((List Nat))) (s7 : (Nat × Bool)) : Prop := ((s7.2 && (!decide (s7.1 = 0))) = true → (s2.length ≤ 1000000))
def st_law_column_bases_8 (many_ : Nat) (columns_ : (List Nat)) (s2 : ((List Nat))) (x3 : Nat) : ((List Nat)) := (m_law_column_bases_6 s2 x3 (List.foldl (fun s5 x6 => st_law_column_bases_4 columns_ s2 x3 s5 x6) ((0, true).1, (0, true).2) (List.range many_)))
def sk_law_column_bases_9 (many_ : Nat) (columns_ : (List Nat)) (s2 : ((List Nat))) (x3 : Nat) : Prop := (many_ < 2 ^ 62) ∧ (okF (fun s5 x6 => sk_law_column_bases_5 columns_ x3 s5 x6) (fun s5 x6 => st_law_column_bases_4 columns_ s2 x3 s5 x6) (List.range many_) ((0, true).1, (0, true).2)) ∧ (ok_law_column_bases_7 s2 (List.foldl (fun s5 x6 => st_law_column_bases_4 columns_ s2 x3 s5 x6) ((0, true).1, (0, true).2) (List.range many_)))
def m_law_column_bases_10 (s4 : ((List Nat))) (most_13 : Nat) : (List Nat) := ((s4).filter (fun x15 => (decide ((m_law_count x15) = most_13)))).map (fun x15 => x15)
def ok_law_column_bases_11 (s4 : ((List Nat))) (most_13 : Nat) : Prop := ((s4).length ≤ 1000000) ∧ (∀ x15 ∈ s4, (ok_law_count x15))
def m_law_column_bases_12 (s4 : ((List Nat))) : (List Nat) := (m_law_column_bases_10 s4 (maxL ltN ((s4).map (fun x12 => (m_law_count x12)))))
def ok_law_column_bases_13 (s4 : ((List Nat))) : Prop := ((s4).length ≤ 1000000) ∧ (∀ x12 ∈ s4, (ok_law_count x12)) ∧ ((s4).map (fun x12 => (m_law_count x12)) ≠ []) ∧ (ok_law_column_bases_11 s4 (maxL ltN ((s4).map (fun x12 => (m_law_count x12)))))
def m_law_column_bases_14 (many_ : Nat) (columns_ : (List Nat)) (free_1 : (List Nat)) : (List Nat) := (m_law_column_bases_12 (List.foldl (fun s2 x3 => st_law_column_bases_8 many_ columns_ s2 x3) free_1 (rgN 1 (1 <<< many_))))
def ok_law_column_bases_15 (many_ : Nat) (columns_ : (List Nat)) (free_1 : (List Nat)) : Prop := (many_ ≤ 1000000) ∧ (1 < 2 ^ 62 ∧ (1 <<< many_) < 2 ^ 62) ∧ (okF (fun s2 x3 => sk_law_column_bases_9 many_ columns_ s2 x3) (fun s2 x3 => st_law_column_bases_8 many_ columns_ s2 x3) (rgN 1 (1 <<< many_)) free_1) ∧ (ok_law_column_bases_13 (List.foldl (fun s2 x3 => st_law_column_bases_8 many_ columns_ s2 x3) free_1 (rgN 1 (1 <<< many_))))
def m_law_column_bases (many_ : Nat) (columns_ : (List Nat)) : (List Nat) := (m_law_column_bases_14 many_ columns_ ([0] : List Nat))
def ok_law_column_bases (many_ : Nat) (columns_ : (List Nat)) : Prop := (ok_law_column_bases_15 many_ columns_ ([0] : List Nat))
def R_law_column_bases (ds : List D) (r : Var) : Prop := ∃ (many_ : Nat) (columns_ : (List Nat)), ok_law_column_bases many_ columns_ ∧ ds = [eN many_, (eLst eN) columns_] ∧ r = (fun v => Var.ow ((eLst eN) v)) (m_law_column_bases many_ columns_)
theorem c_law_column_bases {k : Nat} (F : FunD K "_law_column_bases" "_law_column_bases" (defArgs s_law_column_bases) (defBody s_law_column_bases) (defScope s_law_column_bases) [] [] f fd) (hm : mg "_law_column_bases" = some (.ref f)) (m_max : mg "max" = none) (m_range : mg "range" = none) (F_law_count : Fc P w K mg base "_law_count" ["mask"] k (FP (R_law_count))) :
    Fc P w K mg base "_law_column_bases" ["many", "columns"] (k + 1) (FP (R_law_column_bases)) := by
  have Sc := sc_law_column_bases
  refine fc_of F hm Sc (by decide) (fun _ _ _ _ _ _ us hl => match us, hl with | [_, _], _ => rfl) (FP.par (n := 2) fun ds r h => by obtain ⟨_, _, _, rfl, _⟩ := h; rfl) fun cdv A outer s H E hr as r as' hS => ?_
  obtain ⟨ds, e1, e2, h⟩ := hS
  have pk : ∀ ρ, ParOk as as' ρ := fun ρ => FP.ok e1 e2
  subst e1
  have hu := hr.units
  show XS _ _ _ (kF r (ParOk _ as'))
  generalize ParOk _ as' = PK at pk ⊢
  obtain ⟨many_, columns_, ho, e3, e4⟩ := h
  subst e3 e4
  show XS _ _ [.fz (eN many_), .fz ((eLst eN) columns_), .un, .un, .un, .un, .un, .un] (kF ((fun v => Var.ow ((eLst eN) v)) (m_law_column_bases many_ columns_)) PK)
  exact (xs_setG 2 (fun v => Var.ow ((eLst eN) v)) ([0] : List Nat) (fun free_1 => ok_law_column_bases_15 many_ columns_ free_1) (fun free_1 => [.fz (eN many_), .fz ((eLst eN) columns_), .ow ((eLst eN) free_1), .un, .un, .un, .un, .un]) (fun free_1 => kF ((fun v => Var.ow ((eLst eN) v)) (m_law_column_bases_14 many_ columns_ free_1)) PK) (ev_lstT eN ([0] : List Nat) (ea_cons (ev_natC (n := 0)) ea_nil)) Sc.nd rfl (by first | exact .inl rfl | exact .inr rfl) ho (fun free_1 hv => (xs_forPG (js := [3]) (rgN 1 (1 <<< many_)) eN (fun s2 : ((List Nat)) => [.fz (eN many_), .fz ((eLst eN) columns_), .ow ((eLst eN) s2), .un, .un, .un, .un, .un]) (fun s2 x3 => st_law_column_bases_8 many_ columns_ s2 x3) free_1 (fun s2 x3 => sk_law_column_bases_9 many_ columns_ s2 x3) (fun s4 => ok_law_column_bases_13 s4) (fun s4 => kF ((fun v => Var.ow ((eLst eN) v)) (m_law_column_bases_12 s4)) PK) (ei_range2N (by rfl) m_range (ea_cons (ev_natC (n := 1)) (ea_1 (ev_shlN (i := 1) (j := many_) (ev_natC (n := 1)) (ev_var (i := 0) rfl rfl) hv.1 (by decide)))) hv.2.1) hv.2.2.1 (fun s2 x3 hx ho => (xg_name 3 Sc.nd rfl (by first | exact .inl rfl | exact .inr rfl) (xs_unp (js := [4, 5]) [.fz (eN many_), .fz ((eLst eN) columns_), .ow ((eLst eN) s2), .fz (eN x3), .fz (eN ((0, true).1)), .fz (D.bl ((0, true).2)), .un, .un] (ev_tup (ea_cons (ev_natC (n := 0)) (ea_cons ev_bl ea_nil)) (Nat.le_of_ble_eq_true rfl)) (xg_tup (js := [4, 5]) rfl (xgs_cons (js := [4]) (ks := [5]) (xg_name 4 Sc.nd rfl (by first | exact .inl rfl | exact .inr rfl) (xgs_cons (js := [5]) (ks := []) (xg_name 5 Sc.nd rfl (by first | exact .inl rfl | exact .inr rfl) (xgs_nil rfl)))))) (xs_forPG (js := [6]) (List.range many_) eN (fun s5 : (Nat × Bool) => [.fz (eN many_), .fz ((eLst eN) columns_), .ow ((eLst eN) s2), .fz (eN x3), .fz (eN s5.1), .fz (D.bl s5.2), .un, .un]) (fun s5 x6 => st_law_column_bases_4 columns_ s2 x3 s5 x6) ((0, true).1, (0, true).2) (fun s5 x6 => sk_law_column_bases_5 columns_ x3 s5 x6) (fun s7 => ok_law_column_bases_7 s2 s7) (fun s7 => kL ((fun s2 : ((List Nat)) => [.fz (eN many_), .fz ((eLst eN) columns_), .ow ((eLst eN) s2), .un, .un, .un, .un, .un]) (m_law_column_bases_6 s2 x3 s7))) (ei_rangeN (by rfl) m_range (ea_1 (ev_var (i := 0) rfl rfl)) ho.1) ho.2.1 (fun s5 x6 hx ho => (xg_name 6 Sc.nd rfl (by first | exact .inl rfl | exact .inr rfl) (xs_ifE (et_cp (cp_eqN (i := ((x3 >>> x6) &&& 1)) (j := 1) (ev_andN (i := (x3 >>> x6)) (j := 1) (ev_shrN (i := x3) (j := x6) (ev_var (i := 3) rfl rfl) (ev_var (i := 6) rfl rfl)) (ev_natC (n := 1))) (ev_natC (n := 1)))) (fun hc8 => XS.ift (fun w => kL ((fun s5 : (Nat × Bool) => [.fz (eN many_), .fz ((eLst eN) columns_), .ow ((eLst eN) s2), .fz (eN x3), .fz (eN s5.1), .fz (D.bl s5.2), .un, .un]) w)) hc8 (xs_setG 4 (fun v => Var.fz (eN v)) (s5.1 ^^^ (nth columns_ x6)) (fun total_9 => ok_law_column_bases_3 s5 x6 total_9) (fun total_9 => [.fz (eN many_), .fz ((eLst eN) columns_), .ow ((eLst eN) s2), .fz (eN x3), .fz (eN total_9), .fz (D.bl s5.2), .fz (eN x6), .un]) (fun total_9 => kL ((fun s5 : (Nat × Bool) => [.fz (eN many_), .fz ((eLst eN) columns_), .ow ((eLst eN) s2), .fz (eN x3), .fz (eN s5.1), .fz (D.bl s5.2), .un, .un]) (m_law_column_bases_2 s2 x3 s5 x6 total_9))) (ev_xorN (i := s5.1) (j := (nth columns_ x6)) (ev_var (i := 4) rfl rfl) (ev_ixLN (enc := eN) (l := columns_) (i := x6) (ev_var (i := 1) rfl rfl) (ev_var (i := 6) rfl rfl) (ho hc8).1)) Sc.nd rfl (by first | exact .inl rfl | exact .inr rfl) (ho hc8).2 (fun total_9 hv => (xs_setG 5 (fun v => Var.fz (D.bl v)) (s5.2 && (decide ((x3 ^^^ (1 <<< x6)) ∈ s2))) (fun _ => True) (fun is_fre_10 => [.fz (eN many_), .fz ((eLst eN) columns_), .ow ((eLst eN) s2), .fz (eN x3), .fz (eN total_9), .fz (D.bl is_fre_10), .fz (eN x6), .un]) (fun is_fre_10 => kL ((fun s5 : (Nat × Bool) => [.fz (eN many_), .fz ((eLst eN) columns_), .ow ((eLst eN) s2), .fz (eN x3), .fz (eN s5.1), .fz (D.bl s5.2), .un, .un]) (m_law_column_bases_1 total_9 is_fre_10))) (ev_peek (ev_andV (ev_var (i := 5) rfl rfl) (fun hc0 => (ev_one (ev_cp (cp_inLN (ev_xorN (i := x3) (j := (1 <<< x6)) (ev_var (i := 3) rfl rfl) (ev_shlN (i := 1) (j := x6) (ev_natC (n := 1)) (ev_var (i := 6) rfl rfl) (hv hc0) (by decide))) (ev_var (i := 2) rfl rfl)))))) rfl) Sc.nd rfl (by first | exact .inl rfl | exact .inr rfl) trivial (fun is_fre_10 hv => (xs_un 6 (xs_nil rfl))))))) (fun hc8 => XS.iff (fun w => kL ((fun s5 : (Nat × Bool) => [.fz (eN many_), .fz ((eLst eN) columns_), .ow ((eLst eN) s2), .fz (eN x3), .fz (eN s5.1), .fz (D.bl s5.2), .un, .un]) w)) hc8 (xs_un 6 (xs_nil rfl)))))) ho.2.2 (fun s7 hv => (xs_ifE ((ew_and (et_val (ev_var (i := 5) rfl rfl)) (fun hc0 => (ew_and1 (et_cp (cp_neN (i := s7.1) (j := 0) (ev_var (i := 4) rfl rfl) (ev_natC (n := 0)))))))).t (fun hc11 => XS.ift (fun w => kL ((fun s2 : ((List Nat)) => [.fz (eN many_), .fz ((eLst eN) columns_), .ow ((eLst eN) s2), .un, .un, .un, .un, .un]) w)) hc11 (xs_app (i := 2) (w := false) [.fz (eN many_), .fz ((eLst eN) columns_), .ow ((eLst eN) (s2 ++ [x3])), .fz (eN x3), .fz (eN s7.1), .fz (D.bl s7.2), .un, .un] rfl rfl (ev_var (i := 3) rfl rfl) rfl (hv hc11) (xs_un 5 (xs_un 4 (xs_un 3 (xs_nil rfl)))))) (fun hc11 => XS.iff (fun w => kL ((fun s2 : ((List Nat)) => [.fz (eN many_), .fz ((eLst eN) columns_), .ow ((eLst eN) s2), .un, .un, .un, .un, .un]) w)) hc11 (xs_un 5 (xs_un 4 (xs_un 3 (xs_nil rfl))))))))))) hv.2.2.2 (fun s4 hv => (xs_setG 7 (fun v => Var.fz (eN v)) (maxL ltN ((s4).map (fun x12 => (m_law_count x12)))) (fun most_13 => ok_law_column_bases_11 s4 most_13) (fun most_13 => [.fz (eN many_), .fz ((eLst eN) columns_), .ow ((eLst eN) s4), .un, .un, .un, .un, .fz (eN most_13)]) (fun most_13 => kF ((fun v => Var.ow ((eLst eN) v)) (m_law_column_bases_10 s4 most_13)) PK) (ev_peek (ev_maxT Dat.nat (by decide) hu (by rfl) m_max rfl (ea_1 (ev_fr (ev_lcM (own := [("mask", 3)]) (js := [3]) (s4) eN eN (fun x12 => [.fz (eN many_), .fz ((eLst eN) columns_), .fz ((eLst eN) s4), .fz (eN x12), .un, .un, .un, .un]) (fun x12 => (m_law_count x12)) rfl Sc.nd (ei_list (ev_var (i := 2) rfl rfl)) (blkOk_by (own := [("mask", 3)]) (by kernel_rfl)) (by decide) (fun _ _ => rfl) (fun x12 _ _ _ _ _ _ => (xg_name 3 Sc.nd rfl (by first | exact .inl rfl | exact .inr rfl) rfl)) (fun x12 hx12 _ _ _ _ _ => (ev_call F_law_count hr (by rfl) pass0 (ea_cons (ev_var (i := 3) rfl rfl) ea_nil) (FP.mk ⟨x12, (hv.2.1 x12 hx12), rfl, rfl⟩))) (Nat.lt_of_le_of_lt hv.1 (by decide))))) hv.2.2.1) rfl) Sc.nd rfl (by first | exact .inl rfl | exact .inr rfl) hv.2.2.2 (fun most_13 hv => (xs_frz 2 rfl (xs_one (x1_ret (ev_lcF (own := [("mask", 3)]) (js := [3]) (s4) eN eN (fun x15 => [.fz (eN many_), .fz ((eLst eN) columns_), .fz ((eLst eN) s4), .fz (eN x15), .un, .un, .un, .fz (eN most_13)]) (fun x15 => (decide ((m_law_count x15) = most_13))) (fun x15 => x15) rfl Sc.nd (ei_list (ev_var (i := 2) rfl rfl)) (blkOk_by (own := [("mask", 3)]) (by kernel_rfl)) (by decide) (fun _ _ => rfl) (fun x15 _ _ _ _ _ _ => (xg_name 3 Sc.nd rfl (by first | exact .inl rfl | exact .inr rfl) rfl)) (fun x15 hx15 _ _ _ _ _ => ets_one (et_cp (cp_eqN (i := (m_law_count x15)) (j := most_13) (ev_call F_law_count hr (by rfl) pass0 (ea_cons (ev_var (i := 3) rfl rfl) ea_nil) (FP.mk ⟨x15, (hv.2 x15 hx15), rfl, rfl⟩)) (ev_var (i := 7) rfl rfl)))) (fun x15 hx15 hqx15 _ _ _ _ _ => (ev_var (i := 3) rfl rfl)) (Nat.lt_of_le_of_lt hv.1 (by decide))) ⟨rfl, pk _⟩)))))))))
/-! ### law_drawn_bases -/
abbrev s_law_drawn_bases : Stmt := top 70
abbrev N_law_drawn_bases : List Str := ["source", "many", "way", "place"]
theorem sc_law_drawn_bases : FnScope N_law_drawn_bases ["source", "many"] (defScope s_law_drawn_bases) := ⟨rfl, rfl, rfl, by decide +kernel, rfl, by decide +kernel, by decide +kernel⟩
def m_law_drawn_bases_1 (source_ : (List Int)) (many_ : Nat) (way_1 : Nat) : ((List Nat) × (List Int)) := (if ((decide (way_1 = 0)) && (decide (1 < many_))) = true then ((m_law_sparse ((m_law_next source_ 4).2) many_).1, (m_law_sparse ((m_law_next source_ 4).2) many_).2) else (if (decide (way_1 = 1)) = true then ((m_law_column_bases many_ ((lcS (fun z5 x4 => true) (fun z5 x4 => z5) (fun z5 x4 => (m_law_next z5 8).1) (fun z5 x4 => (m_law_next z5 8).2) (List.range many_) ((m_law_next source_ 4).2)).1)), (lcS (fun z5 x4 => true) (fun z5 x4 => z5) (fun z5 x4 => (m_law_next z5 8).1) (fun z5 x4 => (m_law_next z5 8).2) (List.range many_) ((m_law_next source_ 4).2)).2) else ((m_law_forest_bases_l many_ ((m_law_drawn_lines ((m_law_next source_ 4).2) many_).1)), (m_law_drawn_lines ((m_law_next source_ 4).2) many_).2)))
def ok_law_drawn_bases_2 (source_ : (List Int)) (many_ : Nat) (way_1 : Nat) : Prop := (((decide (way_1 = 0)) && (decide (1 < many_))) = true → (ok_law_sparse ((m_law_next source_ 4).2) many_)) ∧ (((decide (way_1 = 0)) && (decide (1 < many_))) = false → ((decide (way_1 = 1)) = true → (many_ < 2 ^ 62) ∧ ((List.range many_).length ≤ 1000000) ∧ (okS (fun z5 x4 => (ok_law_next z5 8)) (fun z5 x4 => true) (fun z5 x4 => z5) (fun z5 x4 => (m_law_next z5 8).2) (List.range many_) ((m_law_next source_ 4).2)) ∧ (ok_law_column_bases many_ ((lcS (fun z5 x4 => true) (fun z5 x4 => z5) (fun z5 x4 => (m_law_next z5 8).1) (fun z5 x4 => (m_law_next z5 8).2) (List.range many_) ((m_law_next source_ 4).2)).1))) ∧ ((decide (way_1 = 1)) = false → (ok_law_drawn_lines ((m_law_next source_ 4).2) many_) ∧ (ok_law_forest_bases_l many_ ((m_law_drawn_lines ((m_law_next source_ 4).2) many_).1))))
def m_law_drawn_bases (source_ : (List Int)) (many_ : Nat) : ((List Nat) × (List Int)) := (m_law_drawn_bases_1 source_ many_ ((m_law_next source_ 4).1))
def ok_law_drawn_bases (source_ : (List Int)) (many_ : Nat) : Prop := (ok_law_next source_ 4) ∧ (ok_law_drawn_bases_2 source_ many_ ((m_law_next source_ 4).1))
def R_law_drawn_bases (d0 : D) (ds : List D) (r : Var) (d1 : D) : Prop := ∃ (source_ : (List Int)) (many_ : Nat), ok_law_drawn_bases source_ many_ ∧ d0 = (eLst D.int) source_ ∧ ds = [eN many_] ∧ r = (fun v => Var.fz ((eLst eN) v)) (m_law_drawn_bases source_ many_).1 ∧ d1 = (eLst D.int) (m_law_drawn_bases source_ many_).2
theorem c_law_drawn_bases {k : Nat} (F : FunD K "_law_drawn_bases" "_law_drawn_bases" (defArgs s_law_drawn_bases) (defBody s_law_drawn_bases) (defScope s_law_drawn_bases) [] [] f fd) (hm : mg "_law_drawn_bases" = some (.ref f)) (m_range : mg "range" = none) (F_law_next : Fc P w K mg base "_law_next" ["source", "many"] k (FI R_law_next)) (F_law_sparse : Fc P w K mg base "_law_sparse" ["source", "many"] k (FI R_law_sparse)) (F_law_column_bases : Fc P w K mg base "_law_column_bases" ["many", "columns"] k (FP (R_law_column_bases))) (F_law_drawn_lines : Fc P w K mg base "_law_drawn_lines" ["source", "many"] k (FI R_law_drawn_lines)) (F_law_forest_bases : Fc P w K mg base "_law_forest_bases" ["many", "lines"] k (FP (R_law_forest_bases))) :
    Fc P w K mg base "_law_drawn_bases" ["source", "many"] (k + 1) (FI (R_law_drawn_bases)) := by
  have Sc := sc_law_drawn_bases
  refine fc_of F hm Sc (by decide) (fun _ _ _ _ _ _ us hl => match us, hl with | [_, _], _ => rfl) (FI.par (n := 2) fun d0 ds r d1 h => by obtain ⟨_, _, _, _, rfl, _, _⟩ := h; rfl) fun cdv A outer s H E hr as r as' hS => ?_
  obtain ⟨d0, ds, d1, h, e1, e2⟩ := hS
  subst e1 e2
  have hu := hr.units
  obtain ⟨source_, many_, ho, e3, e4, e5, e6⟩ := h
  subst e3 e4 e5 e6
  refine XS.ofI (enc := (fun v => Var.fz ((eLst eN) v))) (encS := (eLst D.int)) (v := m_law_drawn_bases source_ many_) ?_
  show XS _ _ [.io ((eLst D.int) source_), .fz (eN many_), .un, .un] (kI (fun v => Var.fz ((eLst eN) v)) (eLst D.int) (m_law_drawn_bases source_ many_))
  exact (xs_setG 2 (fun v => Var.fz (eN v)) ((m_law_next source_ 4).1) (fun way_1 => ok_law_drawn_bases_2 source_ many_ way_1) (fun way_1 => [.io ((eLst D.int) ((m_law_next source_ 4).2)), .fz (eN many_), .fz (eN way_1), .un]) (fun way_1 => kI (fun v => Var.fz ((eLst eN) v)) (eLst D.int) (m_law_drawn_bases_1 source_ many_ way_1)) (ev_callIo (w := true) (i := 0) F_law_next hr (by rfl) rfl rfl (ea_cons (ev_natC (n := 4)) ea_nil) rfl (FI.mk ⟨source_, 4, ho.1, rfl, rfl, rfl, rfl⟩)) Sc.nd rfl (by first | exact .inl rfl | exact .inr rfl) ho.2 (fun way_1 hv => (xs_ifN ((ew_and (et_cp (cp_eqN (i := way_1) (j := 0) (ev_var (i := 2) rfl rfl) (ev_natC (n := 0)))) (fun hc0 => (ew_and1 (et_cp (cp_gtN (i := many_) (j := 1) (ev_var (i := 1) rfl rfl) (ev_natC (n := 1)))))))).t (fun hc2 => XS.ift (fun w => noNx (kI (fun v => Var.fz ((eLst eN) v)) (eLst D.int) w)) hc2 (xs_one (x1_ret (ev_callIo (w := true) (i := 0) F_law_sparse hr (by rfl) rfl rfl (ea_cons (ev_var (i := 1) rfl rfl) ea_nil) rfl (FI.mk ⟨(m_law_next source_ 4).2, many_, (hv.1 hc2), rfl, rfl, rfl, rfl⟩)) ⟨rfl, rfl⟩))) (fun hc2 => XS.iff (fun w => kI (fun v => Var.fz ((eLst eN) v)) (eLst D.int) w) hc2 (xs_ifN (et_cp (cp_eqN (i := way_1) (j := 1) (ev_var (i := 2) rfl rfl) (ev_natC (n := 1)))) (fun hc3 => XS.ift (fun w => noNx (kI (fun v => Var.fz ((eLst eN) v)) (eLst D.int) w)) hc3 (xs_one (x1_ret (ev_fr (ev_call F_law_column_bases hr (by rfl) pass0 (ea_cons (ev_var (i := 1) rfl rfl) (ea_cons (ev_fr (ev_lcS (own := [("place", 3)]) (js := [3]) (List.range many_) eN eN (fun z5 : (List Int) => [.io ((eLst D.int) z5), .fz (eN many_), .fz (eN way_1), .un]) (fun z5 x4 => [.io ((eLst D.int) z5), .fz (eN many_), .fz (eN way_1), .fz (eN x4)]) (fun z5 x4 => [.io ((eLst D.int) z5), .fz (eN many_), .fz (eN way_1), .fz (eN x4)]) (fun z5 x4 => [.io ((eLst D.int) ((m_law_next z5 8).2)), .fz (eN many_), .fz (eN way_1), .fz (eN x4)]) (fun z5 x4 => true) (fun z5 x4 => z5) (fun z5 x4 => (m_law_next z5 8).1) (fun z5 x4 => (m_law_next z5 8).2) ((m_law_next source_ 4).2) (fun z5 x4 => (ok_law_next z5 8)) rfl Sc.nd (ei_rangeN (by rfl) m_range (ea_1 (ev_var (i := 1) rfl rfl)) ((hv.2 hc2).1 hc3).1) (blkOk_by (own := [("place", 3)]) (by kernel_rfl)) (by decide) ((hv.2 hc2).1 hc3).2.2.1 (fun _ _ _ => rfl) (fun _ _ _ => rfl) (fun z5 x4 _ _ _ _ _ _ => (xg_name 3 Sc.nd rfl (by first | exact .inl rfl | exact .inr rfl) rfl)) (fun z5 x4 hx ho _ _ _ _ _ => ets_nil) (fun z5 x4 hx ho hq _ _ _ _ _ => (ev_callIo (w := true) (i := 0) F_law_next hr (by rfl) rfl rfl (ea_cons (ev_natC (n := 8)) ea_nil) rfl (FI.mk ⟨z5, 8, ho, rfl, rfl, rfl, rfl⟩))) (Nat.lt_of_le_of_lt ((hv.2 hc2).1 hc3).2.1 (by decide)))) ea_nil)) (FP.mk ⟨many_, (lcS (fun z5 x4 => true) (fun z5 x4 => z5) (fun z5 x4 => (m_law_next z5 8).1) (fun z5 x4 => (m_law_next z5 8).2) (List.range many_) ((m_law_next source_ 4).2)).1, ((hv.2 hc2).1 hc3).2.2.2, rfl, rfl⟩))) ⟨rfl, rfl⟩))) (fun hc3 => XS.iff (fun w => kI (fun v => Var.fz ((eLst eN) v)) (eLst D.int) w) hc3 (xs_one (x1_ret (ev_fr (ev_call F_law_forest_bases hr (by rfl) pass0 (ea_cons (ev_var (i := 1) rfl rfl) (ea_cons (ev_fr (ev_callIo (w := true) (i := 0) F_law_drawn_lines hr (by rfl) rfl rfl (ea_cons (ev_var (i := 1) rfl rfl) ea_nil) rfl (FI.mk ⟨(m_law_next source_ 4).2, many_, ((hv.2 hc2).2 hc3).1, rfl, rfl, rfl, rfl⟩))) ea_nil)) (FP.mk (.inl ⟨many_, (m_law_drawn_lines ((m_law_next source_ 4).2) many_).1, ((hv.2 hc2).2 hc3).2, rfl, rfl⟩)))) ⟨rfl, rfl⟩))))))))
/-! ### law_drawn_ground -/
abbrev s_law_drawn_ground : Stmt := top 71
abbrev N_law_drawn_ground : List Str := ["source", "many", "found", "last", "place"]
theorem sc_law_drawn_ground : FnScope N_law_drawn_ground ["source", "many"] (defScope s_law_drawn_ground) := ⟨rfl, rfl, rfl, by decide +kernel, rfl, by decide +kernel, by decide +kernel⟩
def m_law_drawn_ground_1 (s1 : (Int × (List Int) × (List Nat))) (last_4 : Int) : (Int × (List Int) × (List Nat)) := (last_4, (m_law_next s1.2.1 14).2, (s1.2.2 ++ [last_4.toNat]))
def ok_law_drawn_ground_2 (s1 : (Int × (List Int) × (List Nat))) (last_4 : Int) : Prop := ((0 : Int) ≤ last_4) ∧ (s1.2.2.length ≤ 1000000)
def st_law_drawn_ground_3 (s1 : (Int × (List Int) × (List Nat))) (x2 : Nat) : (Int × (List Int) × (List Nat)) := (m_law_drawn_ground_1 s1 ((s1.1 + (1 : Int)) + (((m_law_next s1.2.1 14).1 : Nat) : Int)))
def sk_law_drawn_ground_4 (s1 : (Int × (List Int) × (List Nat))) (x2 : Nat) : Prop := (ok_law_next s1.2.1 14) ∧ (ok_law_drawn_ground_2 s1 ((s1.1 + (1 : Int)) + (((m_law_next s1.2.1 14).1 : Nat) : Int)))
def m_law_drawn_ground_5 (s3 : (Int × (List Int) × (List Nat))) : ((List Nat) × (List Int)) := (s3.2.2, s3.2.1)
def m_law_drawn_ground (source_ : (List Int)) (many_ : Nat) : ((List Nat) × (List Int)) := (m_law_drawn_ground_5 (List.foldl (fun s1 x2 => st_law_drawn_ground_3 s1 x2) ((-1 : Int), source_, ([] : List Nat)) (List.range many_)))
def ok_law_drawn_ground (source_ : (List Int)) (many_ : Nat) : Prop := (many_ < 2 ^ 62) ∧ (okF (fun s1 x2 => sk_law_drawn_ground_4 s1 x2) (fun s1 x2 => st_law_drawn_ground_3 s1 x2) (List.range many_) ((-1 : Int), source_, ([] : List Nat)))
def R_law_drawn_ground (d0 : D) (ds : List D) (r : Var) (d1 : D) : Prop := ∃ (source_ : (List Int)) (many_ : Nat), ok_law_drawn_ground source_ many_ ∧ d0 = (eLst D.int) source_ ∧ ds = [eN many_] ∧ r = (fun v => Var.fz ((eTup eN) v)) (m_law_drawn_ground source_ many_).1 ∧ d1 = (eLst D.int) (m_law_drawn_ground source_ many_).2
theorem c_law_drawn_ground {k : Nat} (F : FunD K "_law_drawn_ground" "_law_drawn_ground" (defArgs s_law_drawn_ground) (defBody s_law_drawn_ground) (defScope s_law_drawn_ground) [] [] f fd) (hm : mg "_law_drawn_ground" = some (.ref f)) (m_range : mg "range" = none) (m_tuple : mg "tuple" = none) (F_law_next : Fc P w K mg base "_law_next" ["source", "many"] k (FI R_law_next)) :
    Fc P w K mg base "_law_drawn_ground" ["source", "many"] (k + 1) (FI (R_law_drawn_ground)) := by
  have Sc := sc_law_drawn_ground
  refine fc_of F hm Sc (by decide) (fun _ _ _ _ _ _ us hl => match us, hl with | [_, _], _ => rfl) (FI.par (n := 2) fun d0 ds r d1 h => by obtain ⟨_, _, _, _, rfl, _, _⟩ := h; rfl) fun cdv A outer s H E hr as r as' hS => ?_
  obtain ⟨d0, ds, d1, h, e1, e2⟩ := hS
  subst e1 e2
  have hu := hr.units
  obtain ⟨source_, many_, ho, e3, e4, e5, e6⟩ := h
  subst e3 e4 e5 e6
  refine XS.ofI (enc := (fun v => Var.fz ((eTup eN) v))) (encS := (eLst D.int)) (v := m_law_drawn_ground source_ many_) ?_
  show XS _ _ [.io ((eLst D.int) source_), .fz (eN many_), .un, .un, .un] (kI (fun v => Var.fz ((eTup eN) v)) (eLst D.int) (m_law_drawn_ground source_ many_))
  exact (xs_parR 2 3 [.io ((eLst D.int) source_), .fz (eN many_), .ow ((eLst eN) ([] : List Nat)), .fz (D.int (-1 : Int)), .un] (er_cons (ev_lstT eN ([] : List Nat) ea_nil) (er_cons (ev_neg (i := 1) ev_int) er_nil)) rfl Sc.nd rfl rfl (by decide) rfl rfl (xs_forPG (js := [4]) (List.range many_) eN (fun s1 : (Int × (List Int) × (List Nat)) => [.io ((eLst D.int) s1.2.1), .fz (eN many_), .ow ((eLst eN) s1.2.2), .fz (D.int s1.1), .un]) (fun s1 x2 => st_law_drawn_ground_3 s1 x2) ((-1 : Int), source_, ([] : List Nat)) (fun s1 x2 => sk_law_drawn_ground_4 s1 x2) (fun _ => True) (fun s3 => kI (fun v => Var.fz ((eTup eN) v)) (eLst D.int) (m_law_drawn_ground_5 s3)) (ei_rangeN (by rfl) m_range (ea_1 (ev_var (i := 1) rfl rfl)) ho.1) ho.2 (fun s1 x2 hx ho => (xg_name 4 Sc.nd rfl (by first | exact .inl rfl | exact .inr rfl) (xs_setG 3 (fun v => Var.fz (D.int v)) ((s1.1 + (1 : Int)) + (((m_law_next s1.2.1 14).1 : Nat) : Int)) (fun last_4 => ok_law_drawn_ground_2 s1 last_4) (fun last_4 => [.io ((eLst D.int) ((m_law_next s1.2.1 14).2)), .fz (eN many_), .ow ((eLst eN) s1.2.2), .fz (D.int last_4), .fz (eN x2)]) (fun last_4 => kL ((fun s1 : (Int × (List Int) × (List Nat)) => [.io ((eLst D.int) s1.2.1), .fz (eN many_), .ow ((eLst eN) s1.2.2), .fz (D.int s1.1), .un]) (m_law_drawn_ground_1 s1 last_4))) (ev_add (ev_add (ev_var (i := 3) rfl rfl) (ev_natC (n := 1))) (ev_callIo (w := true) (i := 0) F_law_next hr (by rfl) rfl rfl (ea_cons (ev_natC (n := 14)) ea_nil) rfl (FI.mk ⟨s1.2.1, 14, ho.1, rfl, rfl, rfl, rfl⟩))) Sc.nd rfl (by first | exact .inl rfl | exact .inr rfl) ho.2 (fun last_4 hv => (xs_app (i := 2) (w := false) [.io ((eLst D.int) ((m_law_next s1.2.1 14).2)), .fz (eN many_), .ow ((eLst eN) (s1.2.2 ++ [last_4.toNat])), .fz (D.int last_4), .fz (eN x2)] rfl rfl (ev_as (ev_var (i := 3) rfl rfl) (iN hv.1)) rfl hv.2 (xs_un 4 (xs_nil rfl))))))) trivial (fun s3 hv => (xs_one (x1_ret (ev_peek (ev_tuple (by rfl) m_tuple (ea_1 (ev_var (i := 2) rfl rfl))) (Dat.imm (Dat.tup Dat.nat) _)) ⟨rfl, rfl⟩)))))
/-! ### law_set -/
abbrev s_law_set : Stmt := top 72
abbrev N_law_set : List Str := ["ground", "mask", "place", "element"]
theorem sc_law_set : FnScope N_law_set ["ground", "mask"] (defScope s_law_set) := ⟨rfl, rfl, rfl, by decide +kernel, rfl, by decide +kernel, by decide +kernel⟩
def m_law_set (ground_ : (List Nat)) (mask_ : Nat) : (List Nat) := ((enm ground_).filter (fun x1 => (decide (((mask_ >>> x1.1) &&& 1) = 1)))).map (fun x1 => x1.2)
def ok_law_set (ground_ : (List Nat)) (_mask_ : Nat) : Prop := ((enm ground_).length ≤ 1000000)
def R_law_set (ds : List D) (r : Var) : Prop := ∃ (ground_ : (List Nat)) (mask_ : Nat), ok_law_set ground_ mask_ ∧ ds = [(eTup eN) ground_, eN mask_] ∧ r = (fun v => Var.fz ((eTup eN) v)) (m_law_set ground_ mask_)
theorem c_law_set {k : Nat} (F : FunD K "_law_set" "_law_set" (defArgs s_law_set) (defBody s_law_set) (defScope s_law_set) [] [] f fd) (hm : mg "_law_set" = some (.ref f)) (m_enumerate : mg "enumerate" = none) (m_tuple : mg "tuple" = none) :
    Fc P w K mg base "_law_set" ["ground", "mask"] (k + 1) (FP (R_law_set)) := by
  have Sc := sc_law_set
  refine fc_of F hm Sc (by decide) (fun _ _ _ _ _ _ us hl => match us, hl with | [_, _], _ => rfl) (FP.par (n := 2) fun ds r h => by obtain ⟨_, _, _, rfl, _⟩ := h; rfl) fun cdv A outer s H E hr as r as' hS => ?_
  obtain ⟨ds, e1, e2, h⟩ := hS
  have pk : ∀ ρ, ParOk as as' ρ := fun ρ => FP.ok e1 e2
  subst e1
  have hu := hr.units
  show XS _ _ _ (kF r (ParOk _ as'))
  generalize ParOk _ as' = PK at pk ⊢
  obtain ⟨ground_, mask_, ho, e3, e4⟩ := h
  subst e3 e4
  show XS _ _ [.fz ((eTup eN) ground_), .fz (eN mask_), .un, .un] (kF ((fun v => Var.fz ((eTup eN) v)) (m_law_set ground_ mask_)) PK)
  exact (xs_one (x1_ret (ev_tuple (by rfl) m_tuple (ea_1 (ev_fr (ev_lcF (own := [("place", 2), ("element", 3)]) (js := [2, 3]) (enm ground_) (eP eN eN) eN (fun x1 => [.fz ((eTup eN) ground_), .fz (eN mask_), .fz (eN x1.1), .fz (eN x1.2)]) (fun x1 => (decide (((mask_ >>> x1.1) &&& 1) = 1))) (fun x1 => x1.2) rfl Sc.nd (ei_enumT (by rfl) m_enumerate (ea_1 (ev_var (i := 0) rfl rfl))) (blkOk_by (own := [("place", 2), ("element", 3)]) (by kernel_rfl)) (by decide) (fun _ _ => rfl) (fun x1 _ _ _ _ _ _ => (xg_tup (js := [2, 3]) rfl (xgs_cons (js := [2]) (ks := [3]) (xg_name 2 Sc.nd rfl (by first | exact .inl rfl | exact .inr rfl) (xgs_cons (js := [3]) (ks := []) (xg_name 3 Sc.nd rfl (by first | exact .inl rfl | exact .inr rfl) (xgs_nil rfl))))))) (fun x1 hx1 _ _ _ _ _ => ets_one (et_cp (cp_eqN (i := ((mask_ >>> x1.1) &&& 1)) (j := 1) (ev_andN (i := (mask_ >>> x1.1)) (j := 1) (ev_shrN (i := mask_) (j := x1.1) (ev_var (i := 1) rfl rfl) (ev_var (i := 2) rfl rfl)) (ev_natC (n := 1))) (ev_natC (n := 1))))) (fun x1 hx1 hqx1 _ _ _ _ _ => (ev_var (i := 3) rfl rfl)) (Nat.lt_of_le_of_lt ho (by decide)))))) ⟨rfl, pk _⟩))
/-! ### law_given -/
abbrev s_law_given : Stmt := top 73
abbrev N_law_given : List Str := ["ground", "bases", "mask"]
theorem sc_law_given : FnScope N_law_given ["ground", "bases"] (defScope s_law_given) := ⟨rfl, rfl, rfl, by decide +kernel, rfl, by decide +kernel, by decide +kernel⟩
def m_law_given (ground_ : (List Nat)) (bases_ : (List Nat)) : Mat := (m_init1 ground_ (srtL (lexL ltN) ((bases_).map (fun x1 => (m_law_set ground_ x1)))))
def ok_law_given (ground_ : (List Nat)) (bases_ : (List Nat)) : Prop := ((bases_).length ≤ 1000000) ∧ (∀ x1 ∈ bases_, (ok_law_set ground_ x1)) ∧ (((bases_).map (fun x1 => (m_law_set ground_ x1))).length ≤ 1000000) ∧ (ok_init1 ground_ (srtL (lexL ltN) ((bases_).map (fun x1 => (m_law_set ground_ x1)))))
def R_law_given (C : Addr) (ds : List D) (r : Var) : Prop := ∃ (ground_ : (List Nat)) (bases_ : (List Nat)), ok_law_given ground_ bases_ ∧ ds = [(eTup eN) ground_, (eLst eN) bases_] ∧ r = (fun v => Var.ow ((eM C) v)) (m_law_given ground_ bases_)
theorem c_law_given {C : Addr} {k : Nat} (F : FunD K "_law_given" "_law_given" (defArgs s_law_given) (defBody s_law_given) (defScope s_law_given) [] [] f fd) (hm : mg "_law_given" = some (.ref f)) (m_sorted : mg "sorted" = none) (m_tuple : mg "tuple" = none) (F_init : FInitM P w K mg base C k) (F_law_set : Fc P w K mg base "_law_set" ["ground", "mask"] k (FP (R_law_set))) :
    Fc P w K mg base "_law_given" ["ground", "bases"] (k + 1) (FP (R_law_given C)) := by
  have Sc := sc_law_given
  refine fc_of F hm Sc (by decide) (fun _ _ _ _ _ _ us hl => match us, hl with | [_, _], _ => rfl) (FP.par (n := 2) fun ds r h => by obtain ⟨_, _, _, rfl, _⟩ := h; rfl) fun cdv A outer s H E hr as r as' hS => ?_
  obtain ⟨ds, e1, e2, h⟩ := hS
  have pk : ∀ ρ, ParOk as as' ρ := fun ρ => FP.ok e1 e2
  subst e1
  have hu := hr.units
  show XS _ _ _ (kF r (ParOk _ as'))
  generalize ParOk _ as' = PK at pk ⊢
  obtain ⟨ground_, bases_, ho, e3, e4⟩ := h
  subst e3 e4
  show XS _ _ [.fz ((eTup eN) ground_), .fz ((eLst eN) bases_), .un] (kF ((fun v => Var.ow ((eM C) v)) (m_law_given ground_ bases_)) PK)
  exact (xs_one (x1_ret (mk_1 F_init hr (by rfl) (ev_var (i := 0) rfl rfl) (ev_tuple (by rfl) m_tuple (ea_1 (ev_fr (ev_sorted (Dat.tup Dat.nat) (by decide) hu (by rfl) m_sorted (ea_1 (ev_fr (ev_lcM (own := [("mask", 2)]) (js := [2]) (bases_) eN (eTup eN) (fun x1 => [.fz ((eTup eN) ground_), .fz ((eLst eN) bases_), .fz (eN x1)]) (fun x1 => (m_law_set ground_ x1)) rfl Sc.nd (ei_list (ev_var (i := 1) rfl rfl)) (blkOk_by (own := [("mask", 2)]) (by kernel_rfl)) (by decide) (fun _ _ => rfl) (fun x1 _ _ _ _ _ _ => (xg_name 2 Sc.nd rfl (by first | exact .inl rfl | exact .inr rfl) rfl)) (fun x1 hx1 _ _ _ _ _ => (ev_call F_law_set hr (by rfl) pass0 (ea_cons (ev_var (i := 0) rfl rfl) (ea_cons (ev_var (i := 2) rfl rfl) ea_nil)) (FP.mk ⟨ground_, x1, (ho.2.1 x1 hx1), rfl, rfl⟩))) (Nat.lt_of_le_of_lt ho.1 (by decide))))) (Nat.le_trans ho.2.2.1 (by decide)))))) ho.2.2.2) ⟨rfl, pk _⟩))
/-! ### law_link -/
abbrev s_law_link : Stmt := top 74
abbrev N_law_link : List Str := ["ranks", "mask", "full"]
theorem sc_law_link : FnScope N_law_link ["ranks", "mask"] (defScope s_law_link) := ⟨rfl, rfl, rfl, by decide +kernel, rfl, by decide +kernel, by decide +kernel⟩
def m_law_link_1 (ranks_ : (List Nat)) (mask_ : Nat) (full_1 : Nat) : Int := (((((nth ranks_ mask_) + (nth ranks_ (full_1 ^^^ mask_))) : Nat) : Int) - (((nth ranks_ full_1) : Nat) : Int))
def ok_law_link_2 (ranks_ : (List Nat)) (mask_ : Nat) (full_1 : Nat) : Prop := (mask_ < ranks_.length) ∧ ((full_1 ^^^ mask_) < ranks_.length) ∧ (full_1 < ranks_.length)
def m_law_link (ranks_ : (List Nat)) (mask_ : Nat) : Int := (m_law_link_1 ranks_ mask_ (ranks_.length - 1))
def ok_law_link (ranks_ : (List Nat)) (mask_ : Nat) : Prop := (1 ≤ ranks_.length) ∧ (ok_law_link_2 ranks_ mask_ (ranks_.length - 1))
def R_law_link (ds : List D) (r : Var) : Prop := ∃ (ranks_ : (List Nat)) (mask_ : Nat), ok_law_link ranks_ mask_ ∧ ds = [(eLst eN) ranks_, eN mask_] ∧ r = (fun v => Var.fz (D.int v)) (m_law_link ranks_ mask_)
theorem c_law_link {k : Nat} (F : FunD K "_law_link" "_law_link" (defArgs s_law_link) (defBody s_law_link) (defScope s_law_link) [] [] f fd) (hm : mg "_law_link" = some (.ref f)) (m_len : mg "len" = none) :
    Fc P w K mg base "_law_link" ["ranks", "mask"] (k + 1) (FP (R_law_link)) := by
  have Sc := sc_law_link
  refine fc_of F hm Sc (by decide) (fun _ _ _ _ _ _ us hl => match us, hl with | [_, _], _ => rfl) (FP.par (n := 2) fun ds r h => by obtain ⟨_, _, _, rfl, _⟩ := h; rfl) fun cdv A outer s H E hr as r as' hS => ?_
  obtain ⟨ds, e1, e2, h⟩ := hS
  have pk : ∀ ρ, ParOk as as' ρ := fun ρ => FP.ok e1 e2
  subst e1
  have hu := hr.units
  show XS _ _ _ (kF r (ParOk _ as'))
  generalize ParOk _ as' = PK at pk ⊢
  obtain ⟨ranks_, mask_, ho, e3, e4⟩ := h
  subst e3 e4
  show XS _ _ [.fz ((eLst eN) ranks_), .fz (eN mask_), .un] (kF ((fun v => Var.fz (D.int v)) (m_law_link ranks_ mask_)) PK)
  exact (xs_setG 2 (fun v => Var.fz (eN v)) (ranks_.length - 1) (fun full_1 => ok_law_link_2 ranks_ mask_ full_1) (fun full_1 => [.fz ((eLst eN) ranks_), .fz (eN mask_), .fz (eN full_1)]) (fun full_1 => kF ((fun v => Var.fz (D.int v)) (m_law_link_1 ranks_ mask_ full_1)) PK) (ev_subN (i := ranks_.length) (j := 1) (ev_as (ev_len (by rfl) m_len (ea_1 (ev_var (i := 0) rfl rfl)) rfl) (by rw [List.length_map])) (ev_natC (n := 1)) ho.1) Sc.nd rfl (by first | exact .inl rfl | exact .inr rfl) ho.2 (fun full_1 hv => (xs_one (x1_ret (ev_sub (ev_addN (i := (nth ranks_ mask_)) (j := (nth ranks_ (full_1 ^^^ mask_))) (ev_ixLN (enc := eN) (l := ranks_) (i := mask_) (ev_var (i := 0) rfl rfl) (ev_var (i := 1) rfl rfl) hv.1) (ev_ixLN (enc := eN) (l := ranks_) (i := (full_1 ^^^ mask_)) (ev_var (i := 0) rfl rfl) (ev_xorN (i := full_1) (j := mask_) (ev_var (i := 2) rfl rfl) (ev_var (i := 1) rfl rfl)) hv.2.1)) (ev_ixLN (enc := eN) (l := ranks_) (i := full_1) (ev_var (i := 0) rfl rfl) (ev_var (i := 2) rfl rfl) hv.2.2)) ⟨rfl, pk _⟩))))
/-! ### law_part_masks -/
abbrev s_law_part_masks : Stmt := top 75
abbrev N_law_part_masks : List Str := ["ranks", "some", "mask", "mate"]
theorem sc_law_part_masks : FnScope N_law_part_masks ["ranks"] (defScope s_law_part_masks) := ⟨rfl, rfl, rfl, by decide +kernel, rfl, by decide +kernel, by decide +kernel⟩
def m_law_part_masks_1 (some_2 : (List Nat)) : (List Nat) := ((some_2).filter (fun x3 => (decide (((some_2).filter (fun x4 => ((!decide (x4 = x3)) && (decide ((x4 &&& x3) = x4))))).map (fun x4 => 1) = ([] : List Nat))))).map (fun x3 => x3)
def ok_law_part_masks_2 (some_2 : (List Nat)) : Prop := ((some_2).length ≤ 1000000) ∧ (∀ x3 ∈ some_2, ((some_2).length ≤ 1000000))
def m_law_part_masks (ranks_ : (List Nat)) : (List Nat) := (m_law_part_masks_1 (((rgN 1 ranks_.length).filter (fun x1 => (decide ((m_law_link ranks_ x1) = (0 : Int))))).map (fun x1 => x1)))
def ok_law_part_masks (ranks_ : (List Nat)) : Prop := (1 < 2 ^ 62 ∧ ranks_.length < 2 ^ 62) ∧ ((rgN 1 ranks_.length).length ≤ 1000000) ∧ (∀ x1 ∈ rgN 1 ranks_.length, (ok_law_link ranks_ x1)) ∧ (ok_law_part_masks_2 (((rgN 1 ranks_.length).filter (fun x1 => (decide ((m_law_link ranks_ x1) = (0 : Int))))).map (fun x1 => x1)))
def R_law_part_masks (ds : List D) (r : Var) : Prop := ∃ (ranks_ : (List Nat)), ok_law_part_masks ranks_ ∧ ds = [(eLst eN) ranks_] ∧ r = (fun v => Var.ow ((eLst eN) v)) (m_law_part_masks ranks_)
theorem c_law_part_masks {k : Nat} (F : FunD K "_law_part_masks" "_law_part_masks" (defArgs s_law_part_masks) (defBody s_law_part_masks) (defScope s_law_part_masks) [] [] f fd) (hm : mg "_law_part_masks" = some (.ref f)) (m_len : mg "len" = none) (m_range : mg "range" = none) (F_law_link : Fc P w K mg base "_law_link" ["ranks", "mask"] k (FP (R_law_link))) :
    Fc P w K mg base "_law_part_masks" ["ranks"] (k + 1) (FP (R_law_part_masks)) := by
  have Sc := sc_law_part_masks
  refine fc_of F hm Sc (by decide) (fun _ _ _ _ _ _ us hl => match us, hl with | [_], _ => rfl) (FP.par (n := 1) fun ds r h => by obtain ⟨_, _, rfl, _⟩ := h; rfl) fun cdv A outer s H E hr as r as' hS => ?_
  obtain ⟨ds, e1, e2, h⟩ := hS
  have pk : ∀ ρ, ParOk as as' ρ := fun ρ => FP.ok e1 e2
  subst e1
  have hu := hr.units
  show XS _ _ _ (kF r (ParOk _ as'))
  generalize ParOk _ as' = PK at pk ⊢
  obtain ⟨ranks_, ho, e3, e4⟩ := h
  subst e3 e4
  show XS _ _ [.fz ((eLst eN) ranks_), .un, .un, .un] (kF ((fun v => Var.ow ((eLst eN) v)) (m_law_part_masks ranks_)) PK)
  exact (xs_setG 1 (fun v => Var.fz ((eLst eN) v)) (((rgN 1 ranks_.length).filter (fun x1 => (decide ((m_law_link ranks_ x1) = (0 : Int))))).map (fun x1 => x1)) (fun some_2 => ok_law_part_masks_2 some_2) (fun some_2 => [.fz ((eLst eN) ranks_), .fz ((eLst eN) some_2), .un, .un]) (fun some_2 => kF ((fun v => Var.ow ((eLst eN) v)) (m_law_part_masks_1 some_2)) PK) (ev_fr (ev_lcF (own := [("mask", 2)]) (js := [2]) (rgN 1 ranks_.length) eN eN (fun x1 => [.fz ((eLst eN) ranks_), .un, .fz (eN x1), .un]) (fun x1 => (decide ((m_law_link ranks_ x1) = (0 : Int)))) (fun x1 => x1) rfl Sc.nd (ei_range2N (by rfl) m_range (ea_cons (ev_natC (n := 1)) (ea_1 (ev_as (ev_len (by rfl) m_len (ea_1 (ev_var (i := 0) rfl rfl)) rfl) (by rw [List.length_map])))) ho.1) (blkOk_by (own := [("mask", 2)]) (by kernel_rfl)) (by decide) (fun _ _ => rfl) (fun x1 _ _ _ _ _ _ => (xg_name 2 Sc.nd rfl (by first | exact .inl rfl | exact .inr rfl) rfl)) (fun x1 hx1 _ _ _ _ _ => ets_one (et_cp (cp_eqI (i := (m_law_link ranks_ x1)) (j := (0 : Int)) (ev_call F_law_link hr (by rfl) pass0 (ea_cons (ev_var (i := 0) rfl rfl) (ea_cons (ev_var (i := 2) rfl rfl) ea_nil)) (FP.mk ⟨ranks_, x1, (ho.2.2.1 x1 hx1), rfl, rfl⟩)) (ev_natC (n := 0))))) (fun x1 hx1 hqx1 _ _ _ _ _ => (ev_var (i := 2) rfl rfl)) (Nat.lt_of_le_of_lt ho.2.1 (by decide)))) Sc.nd rfl (by first | exact .inl rfl | exact .inr rfl) ho.2.2.2 (fun some_2 hv => (xs_one (x1_ret (ev_lcF (own := [("mask", 2)]) (js := [2]) (some_2) eN eN (fun x3 => [.fz ((eLst eN) ranks_), .fz ((eLst eN) some_2), .fz (eN x3), .un]) (fun x3 => (decide (((some_2).filter (fun x4 => ((!decide (x4 = x3)) && (decide ((x4 &&& x3) = x4))))).map (fun x4 => 1) = ([] : List Nat)))) (fun x3 => x3) rfl Sc.nd (ei_list (ev_var (i := 1) rfl rfl)) (blkOk_by (own := [("mask", 2)]) (by kernel_rfl)) (by decide) (fun _ _ => rfl) (fun x3 _ _ _ _ _ _ => (xg_name 2 Sc.nd rfl (by first | exact .inl rfl | exact .inr rfl) rfl)) (fun x3 hx3 _ _ _ _ _ => ets_one (et_cp (cp_eqE (DatE.list (DatE.of Dat.nat)) (by decide) hu (ev_fr (ev_lcF (own := [("mate", 3)]) (js := [3]) (some_2) eN eN (fun x4 => [.fz ((eLst eN) ranks_), .fz ((eLst eN) some_2), .fz (eN x3), .fz (eN x4)]) (fun x4 => ((!decide (x4 = x3)) && (decide ((x4 &&& x3) = x4)))) (fun x4 => 1) rfl Sc.nd (ei_list (ev_var (i := 1) rfl rfl)) (blkOk_by (own := [("mate", 3)]) (by kernel_rfl)) (by decide) (fun _ _ => rfl) (fun x4 _ _ _ _ _ _ => (xg_name 3 Sc.nd rfl (by first | exact .inl rfl | exact .inr rfl) rfl)) (fun x4 hx4 _ _ _ _ _ => ets_one ((ew_and (et_cp (cp_neN (i := x4) (j := x3) (ev_var (i := 3) rfl rfl) (ev_var (i := 2) rfl rfl))) (fun hc0 => (ew_and1 (et_cp (cp_eqN (i := (x4 &&& x3)) (j := x4) (ev_andN (i := x4) (j := x3) (ev_var (i := 3) rfl rfl) (ev_var (i := 2) rfl rfl)) (ev_var (i := 3) rfl rfl))))))).t) (fun x4 hx4 hqx4 _ _ _ _ _ => (ev_natC (n := 1))) (Nat.lt_of_le_of_lt (hv.2 x3 hx3) (by decide)))) (ev_fr (ev_lstT eN ([] : List Nat) ea_nil))))) (fun x3 hx3 hqx3 _ _ _ _ _ => (ev_var (i := 2) rfl rfl)) (Nat.lt_of_le_of_lt hv.1 (by decide))) ⟨rfl, pk _⟩))))
/-! ### law_split_masks -/
abbrev s_law_split_masks : Stmt := top 76
abbrev N_law_split_masks : List Str := ["many", "ranks", "found", "mask"]
theorem sc_law_split_masks : FnScope N_law_split_masks ["many", "ranks"] (defScope s_law_split_masks) := ⟨rfl, rfl, rfl, by decide +kernel, rfl, by decide +kernel, by decide +kernel⟩
def st_law_split_masks_1 (many_ : Nat) (ranks_ : (List Nat)) (s2 : ((List Nat))) (x3 : Nat) : ((List Nat)) := (if ((decide (1 < (m_law_count x3)) && decide ((m_law_count x3) < (many_ - 1))) && (decide ((m_law_link ranks_ x3) = (1 : Int)))) = true then (s2 ++ [x3]) else s2)
def sk_law_split_masks_2 (many_ : Nat) (ranks_ : (List Nat)) (s2 : ((List Nat))) (x3 : Nat) : Prop := (ok_law_count x3) ∧ (decide (1 < (m_law_count x3)) = true → (1 ≤ many_)) ∧ ((decide (1 < (m_law_count x3)) && decide ((m_law_count x3) < (many_ - 1))) = true → (ok_law_link ranks_ x3)) ∧ (((decide (1 < (m_law_count x3)) && decide ((m_law_count x3) < (many_ - 1))) && (decide ((m_law_link ranks_ x3) = (1 : Int)))) = true → (s2.length ≤ 1000000))
def m_law_split_masks_3 (s4 : ((List Nat))) : (List Nat) := s4
def m_law_split_masks_4 (many_ : Nat) (ranks_ : (List Nat)) (found_1 : (List Nat)) : (List Nat) := (m_law_split_masks_3 (List.foldl (fun s2 x3 => st_law_split_masks_1 many_ ranks_ s2 x3) found_1 (odds ranks_.length)))
def ok_law_split_masks_5 (many_ : Nat) (ranks_ : (List Nat)) (found_1 : (List Nat)) : Prop := (ranks_.length < 2 ^ 61) ∧ (okF (fun s2 x3 => sk_law_split_masks_2 many_ ranks_ s2 x3) (fun s2 x3 => st_law_split_masks_1 many_ ranks_ s2 x3) (odds ranks_.length) found_1)
def m_law_split_masks (many_ : Nat) (ranks_ : (List Nat)) : (List Nat) := (m_law_split_masks_4 many_ ranks_ ([] : List Nat))
def ok_law_split_masks (many_ : Nat) (ranks_ : (List Nat)) : Prop := (ok_law_split_masks_5 many_ ranks_ ([] : List Nat))
def R_law_split_masks (ds : List D) (r : Var) : Prop := ∃ (many_ : Nat) (ranks_ : (List Nat)), ok_law_split_masks many_ ranks_ ∧ ds = [eN many_, (eLst eN) ranks_] ∧ r = (fun v => Var.ow ((eLst eN) v)) (m_law_split_masks many_ ranks_)
theorem c_law_split_masks {k : Nat} (F : FunD K "_law_split_masks" "_law_split_masks" (defArgs s_law_split_masks) (defBody s_law_split_masks) (defScope s_law_split_masks) [] [] f fd) (hm : mg "_law_split_masks" = some (.ref f)) (m_len : mg "len" = none) (m_range : mg "range" = none) (F_law_count : Fc P w K mg base "_law_count" ["mask"] k (FP (R_law_count))) (F_law_link : Fc P w K mg base "_law_link" ["ranks", "mask"] k (FP (R_law_link))) :
    Fc P w K mg base "_law_split_masks" ["many", "ranks"] (k + 1) (FP (R_law_split_masks)) := by
  have Sc := sc_law_split_masks
  refine fc_of F hm Sc (by decide) (fun _ _ _ _ _ _ us hl => match us, hl with | [_, _], _ => rfl) (FP.par (n := 2) fun ds r h => by obtain ⟨_, _, _, rfl, _⟩ := h; rfl) fun cdv A outer s H E hr as r as' hS => ?_
  obtain ⟨ds, e1, e2, h⟩ := hS
  have pk : ∀ ρ, ParOk as as' ρ := fun ρ => FP.ok e1 e2
  subst e1
  have hu := hr.units
  show XS _ _ _ (kF r (ParOk _ as'))
  generalize ParOk _ as' = PK at pk ⊢
  obtain ⟨many_, ranks_, ho, e3, e4⟩ := h
  subst e3 e4
  show XS _ _ [.fz (eN many_), .fz ((eLst eN) ranks_), .un, .un] (kF ((fun v => Var.ow ((eLst eN) v)) (m_law_split_masks many_ ranks_)) PK)
  exact (xs_setG 2 (fun v => Var.ow ((eLst eN) v)) ([] : List Nat) (fun found_1 => ok_law_split_masks_5 many_ ranks_ found_1) (fun found_1 => [.fz (eN many_), .fz ((eLst eN) ranks_), .ow ((eLst eN) found_1), .un]) (fun found_1 => kF ((fun v => Var.ow ((eLst eN) v)) (m_law_split_masks_4 many_ ranks_ found_1)) PK) (ev_lstT eN ([] : List Nat) ea_nil) Sc.nd rfl (by first | exact .inl rfl | exact .inr rfl) ho (fun found_1 hv => (xs_forPG (js := [3]) (odds ranks_.length) eN (fun s2 : ((List Nat)) => [.fz (eN many_), .fz ((eLst eN) ranks_), .ow ((eLst eN) s2), .un]) (fun s2 x3 => st_law_split_masks_1 many_ ranks_ s2 x3) found_1 (fun s2 x3 => sk_law_split_masks_2 many_ ranks_ s2 x3) (fun _ => True) (fun s4 => kF ((fun v => Var.ow ((eLst eN) v)) (m_law_split_masks_3 s4)) PK) (ei_odds (n := ranks_.length) (by rfl) m_range (ea_cons (ev_int (i := 1)) (ea_cons (ev_as (ev_len (by rfl) m_len (ea_1 (ev_var (i := 1) rfl rfl)) rfl) (by rw [List.length_map])) (ea_1 (ev_int (i := 2))))) hv.1) hv.2 (fun s2 x3 hx ho => (xg_name 3 Sc.nd rfl (by first | exact .inl rfl | exact .inr rfl) (xs_ifE ((ew_and (et_chn op_lt op_lt (ev_natC (n := 1)) (ev_call F_law_count hr (by rfl) pass0 (ea_cons (ev_var (i := 3) rfl rfl) ea_nil) (FP.mk ⟨x3, ho.1, rfl, rfl⟩)) (fun hc => (ev_subN (i := many_) (j := 1) (ev_var (i := 0) rfl rfl) (ev_natC (n := 1)) (ho.2.1 hc))) odLtN (fun _ => odLtN)) (fun hc0 => (ew_and1 (et_cp (cp_eqI (i := (m_law_link ranks_ x3)) (j := (1 : Int)) (ev_call F_law_link hr (by rfl) pass0 (ea_cons (ev_var (i := 1) rfl rfl) (ea_cons (ev_var (i := 3) rfl rfl) ea_nil)) (FP.mk ⟨ranks_, x3, (ho.2.2.1 hc0), rfl, rfl⟩)) (ev_natC (n := 1)))))))).t (fun hc5 => XS.ift (fun w => kL ((fun s2 : ((List Nat)) => [.fz (eN many_), .fz ((eLst eN) ranks_), .ow ((eLst eN) s2), .un]) w)) hc5 (xs_app (i := 2) (w := false) [.fz (eN many_), .fz ((eLst eN) ranks_), .ow ((eLst eN) (s2 ++ [x3])), .fz (eN x3)] rfl rfl (ev_var (i := 3) rfl rfl) rfl (ho.2.2.2 hc5) (xs_un 3 (xs_nil rfl)))) (fun hc5 => XS.iff (fun w => kL ((fun s2 : ((List Nat)) => [.fz (eN many_), .fz ((eLst eN) ranks_), .ow ((eLst eN) s2), .un]) w)) hc5 (xs_un 3 (xs_nil rfl)))))) trivial (fun s4 hv => (xs_one (x1_retMv 2 rfl rfl ⟨rfl, pk _⟩))))))
/-! ### law_good_masks -/
abbrev s_law_good_masks : Stmt := top 77
abbrev N_law_good_masks : List Str := ["many", "ranks", "some", "full", "found", "one", "clash", "other", "spots"]
theorem sc_law_good_masks : FnScope N_law_good_masks ["many", "ranks"] (defScope s_law_good_masks) := ⟨rfl, rfl, rfl, by decide +kernel, rfl, by decide +kernel, by decide +kernel⟩
def m_law_good_masks_1 (clash_9 : (List Nat)) : ((List Nat)) := clash_9
def m_law_good_masks_2 (s5 : ((List Nat))) (x6 : Nat) (spots_8 : (List Nat)) : ((List Nat)) := (m_law_good_masks_1 (s5 ++ (List.replicate ((!decide (0 ∈ spots_8)).toNat) x6)))
def ok_law_good_masks_3 (s5 : ((List Nat))) (x6 : Nat) (spots_8 : (List Nat)) : Prop := ((!decide (0 ∈ spots_8)).toNat ≤ 1000000) ∧ (s5.length + (List.replicate ((!decide (0 ∈ spots_8)).toNat) x6).length ≤ 1000000)
def st_law_good_masks_4 (ranks_ : (List Nat)) (x2 : Nat) (s5 : ((List Nat))) (x6 : Nat) : ((List Nat)) := (m_law_good_masks_2 s5 x6 ([(x2 &&& x6), (x2 &&& ((ranks_.length - 1) ^^^ x6)), (((ranks_.length - 1) ^^^ x2) &&& x6), (((ranks_.length - 1) ^^^ x2) &&& ((ranks_.length - 1) ^^^ x6))] : List Nat))
def sk_law_good_masks_5 (ranks_ : (List Nat)) (x2 : Nat) (s5 : ((List Nat))) (x6 : Nat) : Prop := (ok_law_good_masks_3 s5 x6 ([(x2 &&& x6), (x2 &&& ((ranks_.length - 1) ^^^ x6)), (((ranks_.length - 1) ^^^ x2) &&& x6), (((ranks_.length - 1) ^^^ x2) &&& ((ranks_.length - 1) ^^^ x6))] : List Nat))
def m_law_good_masks_6 (s1 : ((List Nat))) (x2 : Nat) (s7 : ((List Nat))) : ((List Nat)) := (if (decide (s7 = ([] : List Nat))) = true then (s1 ++ [x2]) else s1)
def ok_law_good_masks_7 (s1 : ((List Nat))) (s7 : ((List Nat))) : Prop := ((decide (s7 = ([] : List Nat))) = true → (s1.length ≤ 1000000))
def m_law_good_masks_8 (many_ : Nat) (ranks_ : (List Nat)) (s1 : ((List Nat))) (x2 : Nat) (clash_4 : (List Nat)) : ((List Nat)) := (m_law_good_masks_6 s1 x2 (List.foldl (fun s5 x6 => st_law_good_masks_4 ranks_ x2 s5 x6) clash_4 ((m_law_split_masks many_ ranks_))))
def ok_law_good_masks_9 (many_ : Nat) (ranks_ : (List Nat)) (s1 : ((List Nat))) (x2 : Nat) (clash_4 : (List Nat)) : Prop := (okF (fun s5 x6 => sk_law_good_masks_5 ranks_ x2 s5 x6) (fun s5 x6 => st_law_good_masks_4 ranks_ x2 s5 x6) ((m_law_split_masks many_ ranks_)) clash_4) ∧ (ok_law_good_masks_7 s1 (List.foldl (fun s5 x6 => st_law_good_masks_4 ranks_ x2 s5 x6) clash_4 ((m_law_split_masks many_ ranks_))))
def st_law_good_masks_10 (many_ : Nat) (ranks_ : (List Nat)) (s1 : ((List Nat))) (x2 : Nat) : ((List Nat)) := (m_law_good_masks_8 many_ ranks_ s1 x2 ([] : List Nat))
def sk_law_good_masks_11 (many_ : Nat) (ranks_ : (List Nat)) (s1 : ((List Nat))) (x2 : Nat) : Prop := (ok_law_good_masks_9 many_ ranks_ s1 x2 ([] : List Nat))
def m_law_good_masks_12 (s3 : ((List Nat))) : (List Nat) := s3
def m_law_good_masks (many_ : Nat) (ranks_ : (List Nat)) : (List Nat) := (m_law_good_masks_12 (List.foldl (fun s1 x2 => st_law_good_masks_10 many_ ranks_ s1 x2) ([] : List Nat) ((m_law_split_masks many_ ranks_))))
def ok_law_good_masks (many_ : Nat) (ranks_ : (List Nat)) : Prop := (ok_law_split_masks many_ ranks_) ∧ (1 ≤ ranks_.length) ∧ (okF (fun s1 x2 => sk_law_good_masks_11 many_ ranks_ s1 x2) (fun s1 x2 => st_law_good_masks_10 many_ ranks_ s1 x2) ((m_law_split_masks many_ ranks_)) ([] : List Nat))
def R_law_good_masks (ds : List D) (r : Var) : Prop := ∃ (many_ : Nat) (ranks_ : (List Nat)), ok_law_good_masks many_ ranks_ ∧ ds = [eN many_, (eLst eN) ranks_] ∧ r = (fun v => Var.ow ((eLst eN) v)) (m_law_good_masks many_ ranks_)
theorem c_law_good_masks {k : Nat} (F : FunD K "_law_good_masks" "_law_good_masks" (defArgs s_law_good_masks) (defBody s_law_good_masks) (defScope s_law_good_masks) [] [] f fd) (hm : mg "_law_good_masks" = some (.ref f)) (m_int : mg "int" = none) (m_len : mg "len" = none) (F_law_split_masks : Fc P w K mg base "_law_split_masks" ["many", "ranks"] k (FP (R_law_split_masks))) :
    Fc P w K mg base "_law_good_masks" ["many", "ranks"] (k + 1) (FP (R_law_good_masks)) := by
  have Sc := sc_law_good_masks
  refine fc_of F hm Sc (by decide) (fun _ _ _ _ _ _ us hl => match us, hl with | [_, _], _ => rfl) (FP.par (n := 2) fun ds r h => by obtain ⟨_, _, _, rfl, _⟩ := h; rfl) fun cdv A outer s H E hr as r as' hS => ?_
  obtain ⟨ds, e1, e2, h⟩ := hS
  have pk : ∀ ρ, ParOk as as' ρ := fun ρ => FP.ok e1 e2
  subst e1
  have hu := hr.units
  show XS _ _ _ (kF r (ParOk _ as'))
  generalize ParOk _ as' = PK at pk ⊢
  obtain ⟨many_, ranks_, ho, e3, e4⟩ := h
  subst e3 e4
  show XS _ _ [.fz (eN many_), .fz ((eLst eN) ranks_), .un, .un, .un, .un, .un, .un, .un] (kF ((fun v => Var.ow ((eLst eN) v)) (m_law_good_masks many_ ranks_)) PK)
  exact (xs_parR3 2 3 4 [.fz (eN many_), .fz ((eLst eN) ranks_), .fz ((eLst eN) (m_law_split_masks many_ ranks_)), .fz (eN (ranks_.length - 1)), .ow ((eLst eN) ([] : List Nat)), .un, .un, .un, .un] (er_cons (ev_fr (ev_call F_law_split_masks hr (by rfl) pass0 (ea_cons (ev_var (i := 0) rfl rfl) (ea_cons (ev_var (i := 1) rfl rfl) ea_nil)) (FP.mk ⟨many_, ranks_, ho.1, rfl, rfl⟩))) (er_cons (ev_subN (i := ranks_.length) (j := 1) (ev_as (ev_len (by rfl) m_len (ea_1 (ev_var (i := 1) rfl rfl)) rfl) (by rw [List.length_map])) (ev_natC (n := 1)) ho.2.1) (er_cons (ev_lstT eN ([] : List Nat) ea_nil) er_nil))) rfl Sc.nd rfl rfl rfl (by decide) rfl rfl rfl (xs_forPG (js := [5]) ((m_law_split_masks many_ ranks_)) eN (fun s1 : ((List Nat)) => [.fz (eN many_), .fz ((eLst eN) ranks_), .fz ((eLst eN) (m_law_split_masks many_ ranks_)), .fz (eN (ranks_.length - 1)), .ow ((eLst eN) s1), .un, .un, .un, .un]) (fun s1 x2 => st_law_good_masks_10 many_ ranks_ s1 x2) ([] : List Nat) (fun s1 x2 => sk_law_good_masks_11 many_ ranks_ s1 x2) (fun _ => True) (fun s3 => kF ((fun v => Var.ow ((eLst eN) v)) (m_law_good_masks_12 s3)) PK) (ei_list (ev_var (i := 2) rfl rfl)) ho.2.2 (fun s1 x2 hx ho => (xg_name 5 Sc.nd rfl (by first | exact .inl rfl | exact .inr rfl) (xs_setG 6 (fun v => Var.fz ((eLst eN) v)) ([] : List Nat) (fun clash_4 => ok_law_good_masks_9 many_ ranks_ s1 x2 clash_4) (fun clash_4 => [.fz (eN many_), .fz ((eLst eN) ranks_), .fz ((eLst eN) (m_law_split_masks many_ ranks_)), .fz (eN (ranks_.length - 1)), .ow ((eLst eN) s1), .fz (eN x2), .fz ((eLst eN) clash_4), .un, .un]) (fun clash_4 => kL ((fun s1 : ((List Nat)) => [.fz (eN many_), .fz ((eLst eN) ranks_), .fz ((eLst eN) (m_law_split_masks many_ ranks_)), .fz (eN (ranks_.length - 1)), .ow ((eLst eN) s1), .un, .un, .un, .un]) (m_law_good_masks_8 many_ ranks_ s1 x2 clash_4))) (ev_fr (ev_lstT eN ([] : List Nat) ea_nil)) Sc.nd rfl (by first | exact .inl rfl | exact .inr rfl) ho (fun clash_4 hv => (xs_forPG (js := [7]) ((m_law_split_masks many_ ranks_)) eN (fun s5 : ((List Nat)) => [.fz (eN many_), .fz ((eLst eN) ranks_), .fz ((eLst eN) (m_law_split_masks many_ ranks_)), .fz (eN (ranks_.length - 1)), .ow ((eLst eN) s1), .fz (eN x2), .fz ((eLst eN) s5), .un, .un]) (fun s5 x6 => st_law_good_masks_4 ranks_ x2 s5 x6) clash_4 (fun s5 x6 => sk_law_good_masks_5 ranks_ x2 s5 x6) (fun s7 => ok_law_good_masks_7 s1 s7) (fun s7 => kL ((fun s1 : ((List Nat)) => [.fz (eN many_), .fz ((eLst eN) ranks_), .fz ((eLst eN) (m_law_split_masks many_ ranks_)), .fz (eN (ranks_.length - 1)), .ow ((eLst eN) s1), .un, .un, .un, .un]) (m_law_good_masks_6 s1 x2 s7))) (ei_list (ev_var (i := 2) rfl rfl)) hv.1 (fun s5 x6 hx ho => (xg_name 7 Sc.nd rfl (by first | exact .inl rfl | exact .inr rfl) (xs_setG 8 (fun v => Var.fz ((eLst eN) v)) ([(x2 &&& x6), (x2 &&& ((ranks_.length - 1) ^^^ x6)), (((ranks_.length - 1) ^^^ x2) &&& x6), (((ranks_.length - 1) ^^^ x2) &&& ((ranks_.length - 1) ^^^ x6))] : List Nat) (fun spots_8 => ok_law_good_masks_3 s5 x6 spots_8) (fun spots_8 => [.fz (eN many_), .fz ((eLst eN) ranks_), .fz ((eLst eN) (m_law_split_masks many_ ranks_)), .fz (eN (ranks_.length - 1)), .ow ((eLst eN) s1), .fz (eN x2), .fz ((eLst eN) s5), .fz (eN x6), .fz ((eLst eN) spots_8)]) (fun spots_8 => kL ((fun s5 : ((List Nat)) => [.fz (eN many_), .fz ((eLst eN) ranks_), .fz ((eLst eN) (m_law_split_masks many_ ranks_)), .fz (eN (ranks_.length - 1)), .ow ((eLst eN) s1), .fz (eN x2), .fz ((eLst eN) s5), .un, .un]) (m_law_good_masks_2 s5 x6 spots_8))) (ev_fr (ev_lstT eN ([(x2 &&& x6), (x2 &&& ((ranks_.length - 1) ^^^ x6)), (((ranks_.length - 1) ^^^ x2) &&& x6), (((ranks_.length - 1) ^^^ x2) &&& ((ranks_.length - 1) ^^^ x6))] : List Nat) (ea_cons (ev_andN (i := x2) (j := x6) (ev_var (i := 5) rfl rfl) (ev_var (i := 7) rfl rfl)) (ea_cons (ev_andN (i := x2) (j := ((ranks_.length - 1) ^^^ x6)) (ev_var (i := 5) rfl rfl) (ev_xorN (i := (ranks_.length - 1)) (j := x6) (ev_var (i := 3) rfl rfl) (ev_var (i := 7) rfl rfl))) (ea_cons (ev_andN (i := ((ranks_.length - 1) ^^^ x2)) (j := x6) (ev_xorN (i := (ranks_.length - 1)) (j := x2) (ev_var (i := 3) rfl rfl) (ev_var (i := 5) rfl rfl)) (ev_var (i := 7) rfl rfl)) (ea_cons (ev_andN (i := ((ranks_.length - 1) ^^^ x2)) (j := ((ranks_.length - 1) ^^^ x6)) (ev_xorN (i := (ranks_.length - 1)) (j := x2) (ev_var (i := 3) rfl rfl) (ev_var (i := 5) rfl rfl)) (ev_xorN (i := (ranks_.length - 1)) (j := x6) (ev_var (i := 3) rfl rfl) (ev_var (i := 7) rfl rfl))) ea_nil)))))) Sc.nd rfl (by first | exact .inl rfl | exact .inr rfl) ho (fun spots_8 hv => (xs_setG 6 (fun v => Var.fz ((eLst eN) v)) (s5 ++ (List.replicate ((!decide (0 ∈ spots_8)).toNat) x6)) (fun _ => True) (fun clash_9 => [.fz (eN many_), .fz ((eLst eN) ranks_), .fz ((eLst eN) (m_law_split_masks many_ ranks_)), .fz (eN (ranks_.length - 1)), .ow ((eLst eN) s1), .fz (eN x2), .fz ((eLst eN) clash_9), .fz (eN x6), .fz ((eLst eN) spots_8)]) (fun clash_9 => kL ((fun s5 : ((List Nat)) => [.fz (eN many_), .fz ((eLst eN) ranks_), .fz ((eLst eN) (m_law_split_masks many_ ranks_)), .fz (eN (ranks_.length - 1)), .ow ((eLst eN) s1), .fz (eN x2), .fz ((eLst eN) s5), .un, .un]) (m_law_good_masks_1 clash_9))) (ev_fr (ev_catL (ev_var (i := 6) rfl rfl) (ev_fr (ev_rep1 (ev_fr (ev_lstT eN ([x6] : List Nat) (ea_cons (ev_var (i := 7) rfl rfl) ea_nil))) (ev_intB (v := (!decide (0 ∈ spots_8))) (by rfl) m_int (ea_1 (ev_cp (cp_niLN (ev_natC (n := 0)) (ev_var (i := 8) rfl rfl))))) hv.1)) hv.2)) Sc.nd rfl (by first | exact .inl rfl | exact .inr rfl) trivial (fun clash_9 hv => (xs_un 8 (xs_un 7 (xs_nil rfl))))))))) hv.2 (fun s7 hv => (xs_ifE (et_cp (cp_eqE (DatE.list (DatE.of Dat.nat)) (by decide) hu (ev_var (i := 6) rfl rfl) (ev_fr (ev_lstT eN ([] : List Nat) ea_nil)))) (fun hc10 => XS.ift (fun w => kL ((fun s1 : ((List Nat)) => [.fz (eN many_), .fz ((eLst eN) ranks_), .fz ((eLst eN) (m_law_split_masks many_ ranks_)), .fz (eN (ranks_.length - 1)), .ow ((eLst eN) s1), .un, .un, .un, .un]) w)) hc10 (xs_app (i := 4) (w := false) [.fz (eN many_), .fz ((eLst eN) ranks_), .fz ((eLst eN) (m_law_split_masks many_ ranks_)), .fz (eN (ranks_.length - 1)), .ow ((eLst eN) (s1 ++ [x2])), .fz (eN x2), .fz ((eLst eN) s7), .un, .un] rfl rfl (ev_var (i := 5) rfl rfl) rfl (hv hc10) (xs_un 6 (xs_un 5 (xs_nil rfl))))) (fun hc10 => XS.iff (fun w => kL ((fun s1 : ((List Nat)) => [.fz (eN many_), .fz ((eLst eN) ranks_), .fz ((eLst eN) (m_law_split_masks many_ ranks_)), .fz (eN (ranks_.length - 1)), .ow ((eLst eN) s1), .un, .un, .un, .un]) w)) hc10 (xs_un 6 (xs_un 5 (xs_nil rfl))))))))))) trivial (fun s3 hv => (xs_one (x1_retMv 4 rfl rfl ⟨rfl, pk _⟩)))))
/-! ### law_whole_bases -/
abbrev s_law_whole_bases : Stmt := top 78
abbrev N_law_whole_bases : List Str := ["source", "many", "turn", "bases"]
theorem sc_law_whole_bases : FnScope N_law_whole_bases ["source", "many"] (defScope s_law_whole_bases) := ⟨rfl, rfl, rfl, by decide +kernel, rfl, by decide +kernel, by decide +kernel⟩
def m_law_whole_bases_1 (many_ : Nat) (s1 : ((List Int))) (bases_4 : (List Nat)) : Ct ((List Int)) ((List Nat) × (List Int)) := (if (decide ((m_law_part_masks (m_law_ranks many_ bases_4)).length = 1)) = true then (.rt (bases_4, (m_law_drawn_bases s1 many_).2)) else (.go ((m_law_drawn_bases s1 many_).2)))
def ok_law_whole_bases_2 (many_ : Nat) (bases_4 : (List Nat)) : Prop := (ok_law_ranks many_ bases_4) ∧ (ok_law_part_masks (m_law_ranks many_ bases_4))
def st_law_whole_bases_3 (many_ : Nat) (s1 : ((List Int))) (x2 : Nat) : Ct ((List Int)) ((List Nat) × (List Int)) := (m_law_whole_bases_1 many_ s1 ((m_law_drawn_bases s1 many_).1))
def sk_law_whole_bases_4 (many_ : Nat) (s1 : ((List Int))) (x2 : Nat) : Prop := (ok_law_drawn_bases s1 many_) ∧ (ok_law_whole_bases_2 many_ ((m_law_drawn_bases s1 many_).1))
def m_law_whole_bases_5 (many_ : Nat) (s3 : ((List Int))) : ((List Nat) × (List Int)) := ((m_law_sized many_ (many_ - 1)), s3)
def ok_law_whole_bases_6 (many_ : Nat) (s3 : ((List Int))) : Prop := (1 ≤ many_) ∧ (ok_law_sized many_ (many_ - 1))
def m_law_whole_bases (source_ : (List Int)) (many_ : Nat) : ((List Nat) × (List Int)) := ((loopC (fun s1 x2 => st_law_whole_bases_3 many_ s1 x2) (List.range 3) source_).out (fun s3 => m_law_whole_bases_5 many_ s3))
def ok_law_whole_bases (source_ : (List Int)) (many_ : Nat) : Prop := (3 < 2 ^ 62) ∧ (okC (fun s1 x2 => sk_law_whole_bases_4 many_ s1 x2) (fun s1 x2 => st_law_whole_bases_3 many_ s1 x2) (List.range 3) source_) ∧ (∀ s3, loopC (fun s1 x2 => st_law_whole_bases_3 many_ s1 x2) (List.range 3) source_ = .go s3 → ok_law_whole_bases_6 many_ s3)
def R_law_whole_bases (d0 : D) (ds : List D) (r : Var) (d1 : D) : Prop := ∃ (source_ : (List Int)) (many_ : Nat), ok_law_whole_bases source_ many_ ∧ d0 = (eLst D.int) source_ ∧ ds = [eN many_] ∧ r = (fun v => Var.fz ((eLst eN) v)) (m_law_whole_bases source_ many_).1 ∧ d1 = (eLst D.int) (m_law_whole_bases source_ many_).2
theorem c_law_whole_bases {k : Nat} (F : FunD K "_law_whole_bases" "_law_whole_bases" (defArgs s_law_whole_bases) (defBody s_law_whole_bases) (defScope s_law_whole_bases) [] [] f fd) (hm : mg "_law_whole_bases" = some (.ref f)) (m_len : mg "len" = none) (m_range : mg "range" = none) (F_law_drawn_bases : Fc P w K mg base "_law_drawn_bases" ["source", "many"] k (FI R_law_drawn_bases)) (F_law_ranks : Fc P w K mg base "_law_ranks" ["many", "bases"] k (FP (R_law_ranks))) (F_law_part_masks : Fc P w K mg base "_law_part_masks" ["ranks"] k (FP (R_law_part_masks))) (F_law_sized : Fc P w K mg base "_law_sized" ["many", "size"] k (FP (R_law_sized))) :
    Fc P w K mg base "_law_whole_bases" ["source", "many"] (k + 1) (FI (R_law_whole_bases)) := by
  have Sc := sc_law_whole_bases
  refine fc_of F hm Sc (by decide) (fun _ _ _ _ _ _ us hl => match us, hl with | [_, _], _ => rfl) (FI.par (n := 2) fun d0 ds r d1 h => by obtain ⟨_, _, _, _, rfl, _, _⟩ := h; rfl) fun cdv A outer s H E hr as r as' hS => ?_
  obtain ⟨d0, ds, d1, h, e1, e2⟩ := hS
  subst e1 e2
  have hu := hr.units
  obtain ⟨source_, many_, ho, e3, e4, e5, e6⟩ := h
  subst e3 e4 e5 e6
  refine XS.ofI (enc := (fun v => Var.fz ((eLst eN) v))) (encS := (eLst D.int)) (v := m_law_whole_bases source_ many_) ?_
  show XS _ _ [.io ((eLst D.int) source_), .fz (eN many_), .un, .un] (kI (fun v => Var.fz ((eLst eN) v)) (eLst D.int) (m_law_whole_bases source_ many_))
  exact (xs_forI (js := [2]) (List.range 3) eN (fun s1 : ((List Int)) => [.io ((eLst D.int) s1), .fz (eN many_), .un, .un]) (fun s1 x2 => st_law_whole_bases_3 many_ s1 x2) source_ (fun s1 x2 => sk_law_whole_bases_4 many_ s1 x2) (fun v => Var.fz ((eLst eN) v)) (eLst D.int) (fun s3 => m_law_whole_bases_5 many_ s3) (ei_rangeN (by rfl) m_range (ea_1 (ev_natC (n := 3))) ho.1) ho.2.1 (fun s1 x2 hx ho => (xg_name 2 Sc.nd rfl (by first | exact .inl rfl | exact .inr rfl) (xs_setG 3 (fun v => Var.fz ((eLst eN) v)) ((m_law_drawn_bases s1 many_).1) (fun bases_4 => ok_law_whole_bases_2 many_ bases_4) (fun bases_4 => [.io ((eLst D.int) ((m_law_drawn_bases s1 many_).2)), .fz (eN many_), .fz (eN x2), .fz ((eLst eN) bases_4)]) (fun bases_4 => kBI (m_law_whole_bases_1 many_ s1 bases_4) (fun s1 : ((List Int)) => [.io ((eLst D.int) s1), .fz (eN many_), .un, .un]) (fun v => Var.fz ((eLst eN) v)) (eLst D.int)) (ev_callIo (w := true) (i := 0) F_law_drawn_bases hr (by rfl) rfl rfl (ea_cons (ev_var (i := 1) rfl rfl) ea_nil) rfl (FI.mk ⟨s1, many_, ho.1, rfl, rfl, rfl, rfl⟩)) Sc.nd rfl (by first | exact .inl rfl | exact .inr rfl) ho.2 (fun bases_4 hv => (xs_ifN (et_cp (cp_eqN (i := (m_law_part_masks (m_law_ranks many_ bases_4)).length) (j := 1) (ev_as (ev_len (by rfl) m_len (ea_1 (ev_fr (ev_call F_law_part_masks hr (by rfl) pass0 (ea_cons (ev_fr (ev_call F_law_ranks hr (by rfl) pass0 (ea_cons (ev_var (i := 1) rfl rfl) (ea_cons (ev_var (i := 3) rfl rfl) ea_nil)) (FP.mk ⟨many_, bases_4, hv.1, rfl, rfl⟩))) ea_nil) (FP.mk ⟨(m_law_ranks many_ bases_4), hv.2, rfl, rfl⟩)))) rfl) (by rw [List.length_map])) (ev_natC (n := 1)))) (fun hc5 => XS.ift (fun w => noNx (kBI w (fun s1 : ((List Int)) => [.io ((eLst D.int) s1), .fz (eN many_), .un, .un]) (fun v => Var.fz ((eLst eN) v)) (eLst D.int))) hc5 (xs_one (x1_ret (ev_var (i := 3) rfl rfl) ⟨_, rfl, rfl, rfl⟩))) (fun hc5 => XS.iff (fun w => kBI w (fun s1 : ((List Int)) => [.io ((eLst D.int) s1), .fz (eN many_), .un, .un]) (fun v => Var.fz ((eLst eN) v)) (eLst D.int)) hc5 (xs_un 3 (xs_un 2 (xs_nil ⟨_, rfl, rfl⟩))))))))) (fun s3 hqs3 => (xs_one (x1_ret (ev_fr (ev_call F_law_sized hr (by rfl) pass0 (ea_cons (ev_var (i := 1) rfl rfl) (ea_cons (ev_subN (i := many_) (j := 1) (ev_var (i := 1) rfl rfl) (ev_natC (n := 1)) (ho.2.2 s3 hqs3).1) ea_nil)) (FP.mk ⟨many_, (many_ - 1), (ho.2.2 s3 hqs3).2, rfl, rfl⟩))) ⟨rfl, rfl⟩))))
/-! ### law_sorted_sets -/
abbrev s_law_sorted_sets : Stmt := top 79
abbrev N_law_sorted_sets : List Str := ["ground", "masks", "mask"]
theorem sc_law_sorted_sets : FnScope N_law_sorted_sets ["ground", "masks"] (defScope s_law_sorted_sets) := ⟨rfl, rfl, rfl, by decide +kernel, rfl, by decide +kernel, by decide +kernel⟩
def m_law_sorted_sets (ground_ : (List Nat)) (masks_ : (List Nat)) : (List (List Nat)) := (srtL (lexL ltN) ((masks_).map (fun x1 => (m_law_set ground_ x1))))
def ok_law_sorted_sets (ground_ : (List Nat)) (masks_ : (List Nat)) : Prop := ((masks_).length ≤ 1000000) ∧ (∀ x1 ∈ masks_, (ok_law_set ground_ x1)) ∧ (((masks_).map (fun x1 => (m_law_set ground_ x1))).length ≤ 1000000)
def R_law_sorted_sets (ds : List D) (r : Var) : Prop := ∃ (ground_ : (List Nat)) (masks_ : (List Nat)), ok_law_sorted_sets ground_ masks_ ∧ ds = [(eTup eN) ground_, (eLst eN) masks_] ∧ r = (fun v => Var.fz ((eTup (eTup eN)) v)) (m_law_sorted_sets ground_ masks_)
theorem c_law_sorted_sets {k : Nat} (F : FunD K "_law_sorted_sets" "_law_sorted_sets" (defArgs s_law_sorted_sets) (defBody s_law_sorted_sets) (defScope s_law_sorted_sets) [] [] f fd) (hm : mg "_law_sorted_sets" = some (.ref f)) (m_sorted : mg "sorted" = none) (m_tuple : mg "tuple" = none) (F_law_set : Fc P w K mg base "_law_set" ["ground", "mask"] k (FP (R_law_set))) :
    Fc P w K mg base "_law_sorted_sets" ["ground", "masks"] (k + 1) (FP (R_law_sorted_sets)) := by
  have Sc := sc_law_sorted_sets
  refine fc_of F hm Sc (by decide) (fun _ _ _ _ _ _ us hl => match us, hl with | [_, _], _ => rfl) (FP.par (n := 2) fun ds r h => by obtain ⟨_, _, _, rfl, _⟩ := h; rfl) fun cdv A outer s H E hr as r as' hS => ?_
  obtain ⟨ds, e1, e2, h⟩ := hS
  have pk : ∀ ρ, ParOk as as' ρ := fun ρ => FP.ok e1 e2
  subst e1
  have hu := hr.units
  show XS _ _ _ (kF r (ParOk _ as'))
  generalize ParOk _ as' = PK at pk ⊢
  obtain ⟨ground_, masks_, ho, e3, e4⟩ := h
  subst e3 e4
  show XS _ _ [.fz ((eTup eN) ground_), .fz ((eLst eN) masks_), .un] (kF ((fun v => Var.fz ((eTup (eTup eN)) v)) (m_law_sorted_sets ground_ masks_)) PK)
  exact (xs_one (x1_ret (ev_tuple (by rfl) m_tuple (ea_1 (ev_fr (ev_sorted (Dat.tup Dat.nat) (by decide) hu (by rfl) m_sorted (ea_1 (ev_fr (ev_lcM (own := [("mask", 2)]) (js := [2]) (masks_) eN (eTup eN) (fun x1 => [.fz ((eTup eN) ground_), .fz ((eLst eN) masks_), .fz (eN x1)]) (fun x1 => (m_law_set ground_ x1)) rfl Sc.nd (ei_list (ev_var (i := 1) rfl rfl)) (blkOk_by (own := [("mask", 2)]) (by kernel_rfl)) (by decide) (fun _ _ => rfl) (fun x1 _ _ _ _ _ _ => (xg_name 2 Sc.nd rfl (by first | exact .inl rfl | exact .inr rfl) rfl)) (fun x1 hx1 _ _ _ _ _ => (ev_call F_law_set hr (by rfl) pass0 (ea_cons (ev_var (i := 0) rfl rfl) (ea_cons (ev_var (i := 2) rfl rfl) ea_nil)) (FP.mk ⟨ground_, x1, (ho.2.1 x1 hx1), rfl, rfl⟩))) (Nat.lt_of_le_of_lt ho.1 (by decide))))) (Nat.le_trans ho.2.2 (by decide)))))) ⟨rfl, pk _⟩))
/-! ### law -/
abbrev s_law : Stmt := top 80
abbrev N_law : List Str := ["script", "k", "source", "many", "ground", "turn", "bases", "whole", "ranks", "told", "ring", "chord"]
theorem sc_law : FnScope N_law ["script"] (defScope s_law) := ⟨rfl, rfl, rfl, by decide +kernel, rfl, by decide +kernel, by decide +kernel⟩
def m_law_1 (many_5 : Nat) (ground_6 : (List Nat)) (s7 : ((List Int))) (bases_10 : (List Nat)) (told_11 : (List (List Nat))) : Ct ((List Int)) Bool := (if (!decide ((PyData.shown (D.py ((eTup (eTup eN)) told_11))) = (PyData.shown (D.py ((eTup (eTup eN)) (m_law_sorted_sets ground_6 (m_law_good_masks many_5 (m_law_ranks many_5 bases_10)))))))) = true then (.rt false) else (if (!decide ((m_good_splits_of (m_dual (m_law_given ground_6 bases_10))) = told_11)) = true then (.rt false) else (.go ((m_law_whole_bases s7 many_5).2))))
def ok_law_2 (many_5 : Nat) (ground_6 : (List Nat)) (bases_10 : (List Nat)) (told_11 : (List (List Nat))) : Prop := (RpOk (D.py ((eTup (eTup eN)) told_11))) ∧ (ok_law_good_masks many_5 (m_law_ranks many_5 bases_10)) ∧ (ok_law_sorted_sets ground_6 (m_law_good_masks many_5 (m_law_ranks many_5 bases_10))) ∧ (RpOk (D.py ((eTup (eTup eN)) (m_law_sorted_sets ground_6 (m_law_good_masks many_5 (m_law_ranks many_5 bases_10)))))) ∧ ((!decide ((PyData.shown (D.py ((eTup (eTup eN)) told_11))) = (PyData.shown (D.py ((eTup (eTup eN)) (m_law_sorted_sets ground_6 (m_law_good_masks many_5 (m_law_ranks many_5 bases_10)))))))) = false → (ok_dual (m_law_given ground_6 bases_10)) ∧ (ok_good_splits_of (m_dual (m_law_given ground_6 bases_10))))
def m_law_3 (many_5 : Nat) (ground_6 : (List Nat)) (s7 : ((List Int))) (bases_10 : (List Nat)) : Ct ((List Int)) Bool := (m_law_1 many_5 ground_6 s7 bases_10 (m_good_splits_of (m_law_given ground_6 bases_10)))
def ok_law_4 (many_5 : Nat) (ground_6 : (List Nat)) (bases_10 : (List Nat)) : Prop := (ok_law_given ground_6 bases_10) ∧ (ok_law_ranks many_5 bases_10) ∧ (ok_good_splits_of (m_law_given ground_6 bases_10)) ∧ (ok_law_2 many_5 ground_6 bases_10 (m_good_splits_of (m_law_given ground_6 bases_10)))
def st_law_5 (many_5 : Nat) (ground_6 : (List Nat)) (s7 : ((List Int))) (x8 : Nat) : Ct ((List Int)) Bool := (m_law_3 many_5 ground_6 s7 ((m_law_whole_bases s7 many_5).1))
def sk_law_6 (many_5 : Nat) (ground_6 : (List Nat)) (s7 : ((List Int))) (x8 : Nat) : Prop := (ok_law_whole_bases s7 many_5) ∧ (ok_law_4 many_5 ground_6 ((m_law_whole_bases s7 many_5).1))
def m_law_7 (s9 : ((List Int))) : Ct Unit Bool := (.go ())
def m_law_8 (source_4 : (List Int)) (many_5 : Nat) (ground_6 : (List Nat)) : Ct Unit Bool := ((loopC (fun s7 x8 => st_law_5 many_5 ground_6 s7 x8) (List.range 2) ((m_law_drawn_ground ((m_law_next source_4 5).2) many_5).2)).then (fun s9 => m_law_7 s9))
def ok_law_9 (source_4 : (List Int)) (many_5 : Nat) (ground_6 : (List Nat)) : Prop := (2 < 2 ^ 62) ∧ (okC (fun s7 x8 => sk_law_6 many_5 ground_6 s7 x8) (fun s7 x8 => st_law_5 many_5 ground_6 s7 x8) (List.range 2) ((m_law_drawn_ground ((m_law_next source_4 5).2) many_5).2))
def m_law_10 (source_4 : (List Int)) (many_5 : Nat) : Ct Unit Bool := (m_law_8 source_4 many_5 ((m_law_drawn_ground ((m_law_next source_4 5).2) many_5).1))
def ok_law_11 (source_4 : (List Int)) (many_5 : Nat) : Prop := (ok_law_drawn_ground ((m_law_next source_4 5).2) many_5) ∧ (ok_law_9 source_4 many_5 ((m_law_drawn_ground ((m_law_next source_4 5).2) many_5).1))
def m_law_12 (source_4 : (List Int)) : Ct Unit Bool := (m_law_10 source_4 (3 + (m_law_next source_4 5).1))
def ok_law_13 (source_4 : (List Int)) : Prop := (ok_law_next source_4 5) ∧ (ok_law_11 source_4 (3 + (m_law_next source_4 5).1))
def st_law_14 (script_ : (List Int)) (s1 : Unit) (x2 : Nat) : Ct Unit Bool := (m_law_12 (m_law_source script_ x2))
def sk_law_15 (script_ : (List Int)) (s1 : Unit) (x2 : Nat) : Prop := (ok_law_source script_ x2) ∧ (ok_law_13 (m_law_source script_ x2))
def m_law_16 (ring_14 : Mat) (chord_15 : Mat) : Bool := (if ((!decide ((m_splits_of ring_14) = ([([0, 1] : List Nat), ([0, 2] : List Nat), ([0, 3] : List Nat)] : List (List Nat)))) || (!decide ((m_good_splits_of ring_14) = ([] : List (List Nat))))) = true then false else (decide ((m_good_splits_of chord_15) = (m_splits_of chord_15)) && decide ((m_splits_of chord_15) = ([([0, 1] : List Nat), ([0, 1, 4] : List Nat)] : List (List Nat)))))
def ok_law_17 (ring_14 : Mat) (chord_15 : Mat) : Prop := (ok_splits_of ring_14) ∧ ((!decide ((m_splits_of ring_14) = ([([0, 1] : List Nat), ([0, 2] : List Nat), ([0, 3] : List Nat)] : List (List Nat)))) = false → (ok_good_splits_of ring_14)) ∧ (((!decide ((m_splits_of ring_14) = ([([0, 1] : List Nat), ([0, 2] : List Nat), ([0, 3] : List Nat)] : List (List Nat)))) || (!decide ((m_good_splits_of ring_14) = ([] : List (List Nat))))) = false → (ok_good_splits_of chord_15) ∧ (ok_splits_of chord_15))
def m_law_18 (ring_14 : Mat) : Bool := (m_law_16 ring_14 (m_law_given ([0, 1, 2, 3, 4] : List Nat) (m_law_forest_bases_t 5 ([(0, 1), (1, 2), (2, 3), (0, 3), (0, 2)] : List (Nat × Nat)))))
def ok_law_19 (ring_14 : Mat) : Prop := (ok_law_forest_bases_t 5 ([(0, 1), (1, 2), (2, 3), (0, 3), (0, 2)] : List (Nat × Nat))) ∧ (ok_law_given ([0, 1, 2, 3, 4] : List Nat) (m_law_forest_bases_t 5 ([(0, 1), (1, 2), (2, 3), (0, 3), (0, 2)] : List (Nat × Nat)))) ∧ (ok_law_17 ring_14 (m_law_given ([0, 1, 2, 3, 4] : List Nat) (m_law_forest_bases_t 5 ([(0, 1), (1, 2), (2, 3), (0, 3), (0, 2)] : List (Nat × Nat)))))
def m_law_20 (s3 : Unit) : Bool := (m_law_18 (m_law_given ([0, 1, 2, 3] : List Nat) (m_law_sized 4 3)))
def ok_law_21 (s3 : Unit) : Prop := (ok_law_sized 4 3) ∧ (ok_law_given ([0, 1, 2, 3] : List Nat) (m_law_sized 4 3)) ∧ (ok_law_19 (m_law_given ([0, 1, 2, 3] : List Nat) (m_law_sized 4 3)))
def m_law (script_ : (List Int)) : Bool := ((loopC (fun s1 x2 => st_law_14 script_ s1 x2) (List.range (max 1 (min 2 script_.length))) ()).out (fun s3 => m_law_20 s3))
def ok_law (script_ : (List Int)) : Prop := ((max 1 (min 2 script_.length)) < 2 ^ 62) ∧ (okC (fun s1 x2 => sk_law_15 script_ s1 x2) (fun s1 x2 => st_law_14 script_ s1 x2) (List.range (max 1 (min 2 script_.length))) ()) ∧ (∀ s3, loopC (fun s1 x2 => st_law_14 script_ s1 x2) (List.range (max 1 (min 2 script_.length))) () = .go s3 → ok_law_21 s3)
def R_law (ds : List D) (r : Var) : Prop := ∃ (script_ : (List Int)), ok_law script_ ∧ ds = [(eSq D.int) script_] ∧ r = (fun v => Var.fz (D.bl v)) (m_law script_)
theorem c_law {C : Addr} {k : Nat} (F : FunD K "law" "law" (defArgs s_law) (defBody s_law) (defScope s_law) [] [] f fd) (rm : Room (k + 1) callerA) (m_len : mg "len" = none) (m_max : mg "max" = none) (m_min : mg "min" = none) (m_range : mg "range" = none) (m_repr : mg "repr" = none) (cl_M : Cls K C) (F_dual : Fm P w K mg base C "dual" ["self"] k (FP (R_dual C))) (F_law_source : Fc P w K mg base "_law_source" ["script", "k"] k (FP (R_law_source))) (F_law_next : Fc P w K mg base "_law_next" ["source", "many"] k (FI R_law_next)) (F_law_drawn_ground : Fc P w K mg base "_law_drawn_ground" ["source", "many"] k (FI R_law_drawn_ground)) (F_law_whole_bases : Fc P w K mg base "_law_whole_bases" ["source", "many"] k (FI R_law_whole_bases)) (F_law_given : Fc P w K mg base "_law_given" ["ground", "bases"] k (FP (R_law_given C))) (F_law_ranks : Fc P w K mg base "_law_ranks" ["many", "bases"] k (FP (R_law_ranks))) (F_good_splits_of : Fc P w K mg base "good_splits_of" ["matroid"] k (FP (R_good_splits_of C))) (F_law_good_masks : Fc P w K mg base "_law_good_masks" ["many", "ranks"] k (FP (R_law_good_masks))) (F_law_sorted_sets : Fc P w K mg base "_law_sorted_sets" ["ground", "masks"] k (FP (R_law_sorted_sets))) (F_law_sized : Fc P w K mg base "_law_sized" ["many", "size"] k (FP (R_law_sized))) (F_law_forest_bases : Fc P w K mg base "_law_forest_bases" ["many", "lines"] k (FP (R_law_forest_bases))) (F_splits_of : Fc P w K mg base "splits_of" ["matroid"] k (FP (R_splits_of C))) (K_good_splits_of : Fk P w K mg base "good_splits_of" "matroid" k (FP (R_good_splits_of C))) (K_splits_of : Fk P w K mg base "splits_of" "matroid" k (FP (R_splits_of C))) :
    FnAt callerA P w K mg base f fd ["script"] (spF K (FP R_law)) := by
  have Sc := sc_law
  refine fa_of F Sc (by decide) rm (FP.par (n := 1) fun ds r h => by obtain ⟨_, _, rfl, _⟩ := h; rfl) fun cdv outer s H E hr as r as' hS => ?_
  obtain ⟨ds, e1, e2, h⟩ := hS
  have pk : ∀ ρ, ParOk as as' ρ := fun ρ => FP.ok e1 e2
  subst e1
  have hu := hr.units
  have hu3 : (callerA.deeper (envOfC "law" (defScope s_law) s.heap.objs.size f cdv)).units + 66 < cLine := by have := hr.un; omega
  show XS _ _ _ (kF r (ParOk _ as'))
  generalize ParOk _ as' = PK at pk ⊢
  obtain ⟨script_, ho, e3, e4⟩ := h
  subst e3 e4
  show XS _ _ [.fz ((eSq D.int) script_), .un, .un, .un, .un, .un, .un, .un, .un, .un, .un, .un] (kF ((fun v => Var.fz (D.bl v)) (m_law script_)) PK)
  exact (xs_forF (js := [1]) (List.range (max 1 (min 2 script_.length))) eN (fun s1 : Unit => [.fz ((eSq D.int) script_), .un, .un, .un, .un, .un, .un, .un, .un, .un, .un, .un]) (fun s1 x2 => st_law_14 script_ s1 x2) () (fun s1 x2 => sk_law_15 script_ s1 x2) (fun v => Var.fz (D.bl v)) (fun s3 => m_law_20 s3) (ei_rangeN (by rfl) m_range (ea_1 (ev_max2N (i := 1) (j := (min 2 script_.length)) rfl (by rfl) m_max (ea_cons (ev_natC (n := 1)) (ea_1 (ev_min2N (i := 2) (j := script_.length) rfl (by rfl) m_min (ea_cons (ev_natC (n := 2)) (ea_1 (ev_as (ev_len (by rfl) m_len (ea_1 (ev_var (i := 0) rfl rfl)) rfl) (by rw [List.length_map]))))))))) ho.1) ho.2.1 (fun s1 x2 hx ho => (xg_name 1 Sc.nd rfl (by first | exact .inl rfl | exact .inr rfl) (xs_setG 2 (fun v => Var.ow ((eLst D.int) v)) (m_law_source script_ x2) (fun source_4 => ok_law_13 source_4) (fun source_4 => [.fz ((eSq D.int) script_), .fz (eN x2), .ow ((eLst D.int) source_4), .un, .un, .un, .un, .un, .un, .un, .un, .un]) (fun source_4 => kB (R := Bool) (m_law_12 source_4) (fun s1 : Unit => [.fz ((eSq D.int) script_), .un, .un, .un, .un, .un, .un, .un, .un, .un, .un, .un]) (fun v => Var.fz (D.bl v)) PK) (ev_call F_law_source hr (by rfl) pass0 (ea_cons (ev_var (i := 0) rfl rfl) (ea_cons (ev_var (i := 1) rfl rfl) ea_nil)) (FP.mk ⟨script_, x2, ho.1, rfl, rfl⟩)) Sc.nd rfl (by first | exact .inl rfl | exact .inr rfl) ho.2 (fun source_4 hv => (xs_setG 3 (fun v => Var.fz (eN v)) (3 + (m_law_next source_4 5).1) (fun many_5 => ok_law_11 source_4 many_5) (fun many_5 => [.fz ((eSq D.int) script_), .fz (eN x2), .ow ((eLst D.int) ((m_law_next source_4 5).2)), .fz (eN many_5), .un, .un, .un, .un, .un, .un, .un, .un]) (fun many_5 => kB (R := Bool) (m_law_10 source_4 many_5) (fun s1 : Unit => [.fz ((eSq D.int) script_), .un, .un, .un, .un, .un, .un, .un, .un, .un, .un, .un]) (fun v => Var.fz (D.bl v)) PK) (ev_addN (i := 3) (j := (m_law_next source_4 5).1) (ev_natC (n := 3)) (ev_callIo (w := false) (i := 2) F_law_next hr (by rfl) rfl rfl (ea_cons (ev_natC (n := 5)) ea_nil) rfl (FI.mk ⟨source_4, 5, hv.1, rfl, rfl, rfl, rfl⟩))) Sc.nd rfl (by first | exact .inl rfl | exact .inr rfl) hv.2 (fun many_5 hv => (xs_setG 4 (fun v => Var.fz ((eTup eN) v)) ((m_law_drawn_ground ((m_law_next source_4 5).2) many_5).1) (fun ground_6 => ok_law_9 source_4 many_5 ground_6) (fun ground_6 => [.fz ((eSq D.int) script_), .fz (eN x2), .ow ((eLst D.int) ((m_law_drawn_ground ((m_law_next source_4 5).2) many_5).2)), .fz (eN many_5), .fz ((eTup eN) ground_6), .un, .un, .un, .un, .un, .un, .un]) (fun ground_6 => kB (R := Bool) (m_law_8 source_4 many_5 ground_6) (fun s1 : Unit => [.fz ((eSq D.int) script_), .un, .un, .un, .un, .un, .un, .un, .un, .un, .un, .un]) (fun v => Var.fz (D.bl v)) PK) (ev_callIo (w := false) (i := 2) F_law_drawn_ground hr (by rfl) rfl rfl (ea_cons (ev_var (i := 3) rfl rfl) ea_nil) rfl (FI.mk ⟨(m_law_next source_4 5).2, many_5, hv.1, rfl, rfl, rfl, rfl⟩)) Sc.nd rfl (by first | exact .inl rfl | exact .inr rfl) hv.2 (fun ground_6 hv => (xs_forB (js := [5]) (List.range 2) eN (fun s7 : ((List Int)) => [.fz ((eSq D.int) script_), .fz (eN x2), .ow ((eLst D.int) s7), .fz (eN many_5), .fz ((eTup eN) ground_6), .un, .un, .un, .un, .un, .un, .un]) (fun s7 x8 => st_law_5 many_5 ground_6 s7 x8) ((m_law_drawn_ground ((m_law_next source_4 5).2) many_5).2) (fun s7 x8 => sk_law_6 many_5 ground_6 s7 x8) (fun s1 : Unit => [.fz ((eSq D.int) script_), .un, .un, .un, .un, .un, .un, .un, .un, .un, .un, .un]) (fun v => Var.fz (D.bl v)) (fun s9 => m_law_7 s9) (ei_rangeN (by rfl) m_range (ea_1 (ev_natC (n := 2))) hv.1) hv.2 (fun s7 x8 hx ho => (xg_name 5 Sc.nd rfl (by first | exact .inl rfl | exact .inr rfl) (xs_setG 6 (fun v => Var.fz ((eLst eN) v)) ((m_law_whole_bases s7 many_5).1) (fun bases_10 => ok_law_4 many_5 ground_6 bases_10) (fun bases_10 => [.fz ((eSq D.int) script_), .fz (eN x2), .ow ((eLst D.int) ((m_law_whole_bases s7 many_5).2)), .fz (eN many_5), .fz ((eTup eN) ground_6), .fz (eN x8), .fz ((eLst eN) bases_10), .un, .un, .un, .un, .un]) (fun bases_10 => kB (R := Bool) (m_law_3 many_5 ground_6 s7 bases_10) (fun s7 : ((List Int)) => [.fz ((eSq D.int) script_), .fz (eN x2), .ow ((eLst D.int) s7), .fz (eN many_5), .fz ((eTup eN) ground_6), .un, .un, .un, .un, .un, .un, .un]) (fun v => Var.fz (D.bl v)) PK) (ev_callIo (w := false) (i := 2) F_law_whole_bases hr (by rfl) rfl rfl (ea_cons (ev_var (i := 3) rfl rfl) ea_nil) rfl (FI.mk ⟨s7, many_5, ho.1, rfl, rfl, rfl, rfl⟩)) Sc.nd rfl (by first | exact .inl rfl | exact .inr rfl) ho.2 (fun bases_10 hv => (xs_par 7 8 [.fz ((eSq D.int) script_), .fz (eN x2), .ow ((eLst D.int) ((m_law_whole_bases s7 many_5).2)), .fz (eN many_5), .fz ((eTup eN) ground_6), .fz (eN x8), .fz ((eLst eN) bases_10), .fz ((eM C) (m_law_given ground_6 bases_10)), .fz ((eLst eN) (m_law_ranks many_5 bases_10)), .un, .un, .un] (ea_cons (ev_fr (ev_call F_law_given hr (by rfl) pass0 (ea_cons (ev_var (i := 4) rfl rfl) (ea_cons (ev_var (i := 6) rfl rfl) ea_nil)) (FP.mk ⟨ground_6, bases_10, hv.1, rfl, rfl⟩))) (ea_cons (ev_fr (ev_call F_law_ranks hr (by rfl) pass0 (ea_cons (ev_var (i := 3) rfl rfl) (ea_cons (ev_var (i := 6) rfl rfl) ea_nil)) (FP.mk ⟨many_5, bases_10, hv.2.1, rfl, rfl⟩))) ea_nil)) rfl Sc.nd rfl rfl (by decide) rfl rfl (xs_setG 9 (fun v => Var.fz ((eTup (eTup eN)) v)) (m_good_splits_of (m_law_given ground_6 bases_10)) (fun told_11 => ok_law_2 many_5 ground_6 bases_10 told_11) (fun told_11 => [.fz ((eSq D.int) script_), .fz (eN x2), .ow ((eLst D.int) ((m_law_whole_bases s7 many_5).2)), .fz (eN many_5), .fz ((eTup eN) ground_6), .fz (eN x8), .fz ((eLst eN) bases_10), .fz ((eM C) (m_law_given ground_6 bases_10)), .fz ((eLst eN) (m_law_ranks many_5 bases_10)), .fz ((eTup (eTup eN)) told_11), .un, .un]) (fun told_11 => kB (R := Bool) (m_law_1 many_5 ground_6 s7 bases_10 told_11) (fun s7 : ((List Int)) => [.fz ((eSq D.int) script_), .fz (eN x2), .ow ((eLst D.int) s7), .fz (eN many_5), .fz ((eTup eN) ground_6), .un, .un, .un, .un, .un, .un, .un]) (fun v => Var.fz (D.bl v)) PK) (ev_call F_good_splits_of hr (by rfl) pass0 (ea_cons (ev_var (i := 7) rfl rfl) ea_nil) (FP.mk ⟨(m_law_given ground_6 bases_10), hv.2.2.1, rfl, rfl⟩)) Sc.nd rfl (by first | exact .inl rfl | exact .inr rfl) hv.2.2.2 (fun told_11 hv => (xs_ifN (et_cp (cp_neStr (ev_repr rfl hu3 (by rfl) m_repr (ea_1 (ev_var (i := 9) rfl rfl)) (DatE.pure (DatE.tup (DatE.tup (DatE.of Dat.nat))) _) (fun _ _ h => tup_ref h) hv.1) (ev_repr rfl hu3 (by rfl) m_repr (ea_1 (ev_call F_law_sorted_sets hr (by rfl) pass0 (ea_cons (ev_var (i := 4) rfl rfl) (ea_cons (ev_fr (ev_call F_law_good_masks hr (by rfl) pass0 (ea_cons (ev_var (i := 3) rfl rfl) (ea_cons (ev_var (i := 8) rfl rfl) ea_nil)) (FP.mk ⟨many_5, (m_law_ranks many_5 bases_10), hv.2.1, rfl, rfl⟩))) ea_nil)) (FP.mk ⟨ground_6, (m_law_good_masks many_5 (m_law_ranks many_5 bases_10)), hv.2.2.1, rfl, rfl⟩))) (DatE.pure (DatE.tup (DatE.tup (DatE.of Dat.nat))) _) (fun _ _ h => tup_ref h) hv.2.2.2.1))) (fun hc12 => XS.ift (fun w => noNx (kB (R := Bool) w (fun s7 : ((List Int)) => [.fz ((eSq D.int) script_), .fz (eN x2), .ow ((eLst D.int) s7), .fz (eN many_5), .fz ((eTup eN) ground_6), .un, .un, .un, .un, .un, .un, .un]) (fun v => Var.fz (D.bl v)) PK)) hc12 (xs_one (x1_ret ev_bl ⟨_, rfl, rfl, pk _⟩))) (fun hc12 => XS.iff (fun w => kB (R := Bool) w (fun s7 : ((List Int)) => [.fz ((eSq D.int) script_), .fz (eN x2), .ow ((eLst D.int) s7), .fz (eN many_5), .fz ((eTup eN) ground_6), .un, .un, .un, .un, .un, .un, .un]) (fun v => Var.fz (D.bl v)) PK) hc12 (xs_ifN (et_cp (cp_neE (DatE.tup (DatE.tup (DatE.of Dat.nat))) (by decide) hu (ev_call F_good_splits_of hr (by rfl) pass0 (ea_cons (ev_fr (ev_meth0 F_dual hr (ev_var (i := 7) rfl rfl) rfl (FP.mk (ds := [eM C (m_law_given ground_6 bases_10)]) ⟨(m_law_given ground_6 bases_10), (hv.2.2.2.2 hc12).1, rfl, rfl⟩))) ea_nil) (FP.mk ⟨(m_dual (m_law_given ground_6 bases_10)), (hv.2.2.2.2 hc12).2, rfl, rfl⟩)) (ev_var (i := 9) rfl rfl))) (fun hc13 => XS.ift (fun w => noNx (kB (R := Bool) w (fun s7 : ((List Int)) => [.fz ((eSq D.int) script_), .fz (eN x2), .ow ((eLst D.int) s7), .fz (eN many_5), .fz ((eTup eN) ground_6), .un, .un, .un, .un, .un, .un, .un]) (fun v => Var.fz (D.bl v)) PK)) hc13 (xs_one (x1_ret ev_bl ⟨_, rfl, rfl, pk _⟩))) (fun hc13 => XS.iff (fun w => kB (R := Bool) w (fun s7 : ((List Int)) => [.fz ((eSq D.int) script_), .fz (eN x2), .ow ((eLst D.int) s7), .fz (eN many_5), .fz ((eTup eN) ground_6), .un, .un, .un, .un, .un, .un, .un]) (fun v => Var.fz (D.bl v)) PK) hc13 (xs_un 9 (xs_un 8 (xs_un 7 (xs_un 6 (xs_un 5 (xs_nil ⟨_, rfl, rfl⟩))))))))))))))))) (fun s9 hqs9 => (xs_un 4 (xs_un 3 (xs_frz 2 rfl (xs_un 2 (xs_un 1 (xs_nil ⟨_, rfl, rfl⟩)))))))))))))))) (fun s3 hqs3 => (xs_setG 10 (fun v => Var.fz ((eM C) v)) (m_law_given ([0, 1, 2, 3] : List Nat) (m_law_sized 4 3)) (fun ring_14 => ok_law_19 ring_14) (fun ring_14 => [.fz ((eSq D.int) script_), .un, .un, .un, .un, .un, .un, .un, .un, .un, .fz ((eM C) ring_14), .un]) (fun ring_14 => kF ((fun v => Var.fz (D.bl v)) (m_law_18 ring_14)) PK) (ev_fr (ev_call F_law_given hr (by rfl) pass0 (ea_cons (ev_tupT eN ([0, 1, 2, 3] : List Nat) (ea_cons (ev_natC (n := 0)) (ea_cons (ev_natC (n := 1)) (ea_cons (ev_natC (n := 2)) (ea_cons (ev_natC (n := 3)) ea_nil))))) (ea_cons (ev_fr (ev_call F_law_sized hr (by rfl) pass0 (ea_cons (ev_natC (n := 4)) (ea_cons (ev_natC (n := 3)) ea_nil)) (FP.mk ⟨4, 3, (ho.2.2 s3 hqs3).1, rfl, rfl⟩))) ea_nil)) (FP.mk ⟨([0, 1, 2, 3] : List Nat), (m_law_sized 4 3), (ho.2.2 s3 hqs3).2.1, rfl, rfl⟩))) Sc.nd rfl (by first | exact .inl rfl | exact .inr rfl) (ho.2.2 s3 hqs3).2.2 (fun ring_14 hv => (xs_setG 11 (fun v => Var.fz ((eM C) v)) (m_law_given ([0, 1, 2, 3, 4] : List Nat) (m_law_forest_bases_t 5 ([(0, 1), (1, 2), (2, 3), (0, 3), (0, 2)] : List (Nat × Nat)))) (fun chord_15 => ok_law_17 ring_14 chord_15) (fun chord_15 => [.fz ((eSq D.int) script_), .un, .un, .un, .un, .un, .un, .un, .un, .un, .fz ((eM C) ring_14), .fz ((eM C) chord_15)]) (fun chord_15 => kF ((fun v => Var.fz (D.bl v)) (m_law_16 ring_14 chord_15)) PK) (ev_fr (ev_call F_law_given hr (by rfl) pass0 (ea_cons (ev_tupT eN ([0, 1, 2, 3, 4] : List Nat) (ea_cons (ev_natC (n := 0)) (ea_cons (ev_natC (n := 1)) (ea_cons (ev_natC (n := 2)) (ea_cons (ev_natC (n := 3)) (ea_cons (ev_natC (n := 4)) ea_nil)))))) (ea_cons (ev_fr (ev_call F_law_forest_bases hr (by rfl) pass0 (ea_cons (ev_natC (n := 5)) (ea_cons (ev_tupT (eP eN eN) ([(0, 1), (1, 2), (2, 3), (0, 3), (0, 2)] : List (Nat × Nat)) (ea_cons (ev_tup (ea_cons (ev_natC (n := 0)) (ea_cons (ev_natC (n := 1)) ea_nil)) (Nat.le_of_ble_eq_true rfl)) (ea_cons (ev_tup (ea_cons (ev_natC (n := 1)) (ea_cons (ev_natC (n := 2)) ea_nil)) (Nat.le_of_ble_eq_true rfl)) (ea_cons (ev_tup (ea_cons (ev_natC (n := 2)) (ea_cons (ev_natC (n := 3)) ea_nil)) (Nat.le_of_ble_eq_true rfl)) (ea_cons (ev_tup (ea_cons (ev_natC (n := 0)) (ea_cons (ev_natC (n := 3)) ea_nil)) (Nat.le_of_ble_eq_true rfl)) (ea_cons (ev_tup (ea_cons (ev_natC (n := 0)) (ea_cons (ev_natC (n := 2)) ea_nil)) (Nat.le_of_ble_eq_true rfl)) ea_nil)))))) ea_nil)) (FP.mk (.inr (⟨5, ([(0, 1), (1, 2), (2, 3), (0, 3), (0, 2)] : List (Nat × Nat)), hv.1, rfl, rfl⟩))))) ea_nil)) (FP.mk ⟨([0, 1, 2, 3, 4] : List Nat), (m_law_forest_bases_t 5 ([(0, 1), (1, 2), (2, 3), (0, 3), (0, 2)] : List (Nat × Nat))), hv.2.1, rfl, rfl⟩))) Sc.nd rfl (by first | exact .inl rfl | exact .inr rfl) hv.2.2 (fun chord_15 hv => (xs_ifN ((ew_or (et_cp (cp_neE (DatE.tup (DatE.tup (DatE.of Dat.nat))) (by decide) hu (ev_call F_splits_of hr (by rfl) pass0 (ea_cons (ev_var (i := 10) rfl rfl) ea_nil) (FP.mk ⟨ring_14, hv.1, rfl, rfl⟩)) (ev_tupT (eTup eN) ([([0, 1] : List Nat), ([0, 2] : List Nat), ([0, 3] : List Nat)] : List (List Nat)) (ea_cons (ev_tupT eN ([0, 1] : List Nat) (ea_cons (ev_natC (n := 0)) (ea_cons (ev_natC (n := 1)) ea_nil))) (ea_cons (ev_tupT eN ([0, 2] : List Nat) (ea_cons (ev_natC (n := 0)) (ea_cons (ev_natC (n := 2)) ea_nil))) (ea_cons (ev_tupT eN ([0, 3] : List Nat) (ea_cons (ev_natC (n := 0)) (ea_cons (ev_natC (n := 3)) ea_nil))) ea_nil)))))) (fun hc0 => (ew_or1 (et_cp (cp_neE (DatE.tup (DatE.tup (DatE.of Dat.nat))) (by decide) hu (ev_call F_good_splits_of hr (by rfl) pass0 (ea_cons (ev_var (i := 10) rfl rfl) ea_nil) (FP.mk ⟨ring_14, (hv.2.1 hc0), rfl, rfl⟩)) (ev_tupT (eTup eN) ([] : List (List Nat)) ea_nil))))))).t (fun hc16 => XS.ift (fun w => noNx (kF ((fun v => Var.fz (D.bl v)) w) PK)) hc16 (xs_one (x1_ret ev_bl ⟨rfl, pk _⟩))) (fun hc16 => XS.iff (fun w => kF ((fun v => Var.fz (D.bl v)) w) PK) hc16 (xs_one (x1_ret (ev_chn (op_eqD hu) (op_eqD hu) (ev_callKw K_good_splits_of hr (by rfl) (ev_var (i := 11) rfl rfl) (FP.mk (ds := [(eM C) chord_15]) ⟨chord_15, (hv.2.2 hc16).1, rfl, rfl⟩)) (ev_callKw K_splits_of hr (by rfl) (ev_var (i := 11) rfl rfl) (FP.mk (ds := [(eM C) chord_15]) ⟨chord_15, (hv.2.2 hc16).2, rfl, rfl⟩)) (fun hc => (ev_tupT (eTup eN) ([([0, 1] : List Nat), ([0, 1, 4] : List Nat)] : List (List Nat)) (ea_cons (ev_tupT eN ([0, 1] : List Nat) (ea_cons (ev_natC (n := 0)) (ea_cons (ev_natC (n := 1)) ea_nil))) (ea_cons (ev_tupT eN ([0, 1, 4] : List Nat) (ea_cons (ev_natC (n := 0)) (ea_cons (ev_natC (n := 1)) (ea_cons (ev_natC (n := 4)) ea_nil)))) ea_nil)))) (odEqE (DatE.tup (DatE.tup (DatE.of Dat.nat))) (by decide)) (fun _ => odEqE (DatE.tup (DatE.tup (DatE.of Dat.nat))) (by decide))) ⟨rfl, pk _⟩))))))))))
end
end K66

/-! LR: the law's counts, sets, ranks by bases, the matroid given. -/
namespace K66
open PySem PySem.Spec PyProof.Rows L2 DL PL
theorem count_ok {n m : Nat} (h : m < 2 ^ n) : ok_law_count m ∧ m_law_count m = card n m := by
  obtain ⟨a, b, c⟩ := whl_inv (okc := fun _ => True) (ok := fun s1 => sk_law_count_3 s1) (c := fun s1 => wc_law_count_1 s1) (f := fun s1 => st_law_count_2 s1) (fun s => s.2 < 2 ^ n ∧ s.1 + card n s.2 = card n m) (fun s => s.2) (fun s i => ⟨trivial, fun e => by
    have e : 0 < s.2 := of_decide_eq_true e
    have q := card_drop n s.2 e i.1
    refine ⟨e, ⟨Nat.lt_trans (and_pred_lt e) i.1, ?_⟩, and_pred_lt e⟩
    show s.1 + 1 + card n (s.2 &&& (s.2 - 1)) = _
    have := i.2
    omega⟩) (fun s i e => decide_eq_false (by rw [e]; exact Nat.lt_irrefl 0)) m (0, m) ⟨h, Nat.zero_add _⟩ (Nat.le_refl _)
  refine ⟨a, ?_⟩
  show (whl _ _ m (0, m)).1 = _
  have c : ¬ 0 < (whl (fun s1 => wc_law_count_1 s1) (fun s1 => st_law_count_2 s1) m (0, m)).2 := of_decide_eq_false c
  have b2 := b.2
  rw [show (whl (fun s1 => wc_law_count_1 s1) (fun s1 => st_law_count_2 s1) m (0, m)).2 = 0 by omega, card_zero] at b2
  exact b2
theorem law_set_eq {g : List Nat} {m : Nat} : m_law_set g m = stF g m := set_from_eq
theorem t_law_set {g : List Nat} {m : Nat} (hg : g.length ≤ 10) : ok_law_set g m := by
  show (enm g).length ≤ 1000000
  rw [enm_len]; omega
theorem and_lt {n a b : Nat} (h : a < 2 ^ n) : a &&& b < 2 ^ n := Nat.lt_of_le_of_lt Nat.and_le_left h
theorem full_and {n b : Nat} (h : b < 2 ^ n) : (2 ^ n - 1) &&& b = b := (Sub.andr _ _).antisymm fun i z => by
  rw [Nat.testBit_and, z, full_sub h i z]; rfl
theorem ranks_good {n k : Nat} {F : Nat → Prop} {bases : List Nat} (hn : n ≤ 10) (h : Bs n F k bases) (hl : bases.length ≤ 1000000) :
    ok_law_ranks n bases ∧ Good n (m_law_ranks n bases) ∧ (∀ m, m ∈ bases ↔ IsB n (m_law_ranks n bases) m) ∧ RkL n F (2 ^ n) (m_law_ranks n bases) := by
  have t10 := two10 hn
  have hp := Nat.two_pow_pos n
  have hf := fold_inv0 (ok := fun s2 x3 => sk_law_ranks_2 bases s2 x3) (f := fun s2 x3 => st_law_ranks_1 bases s2 x3) (fun i s => RkL n F i s ∧ ∀ m, m < i → MaxM n bases m (nth s m)) (List.range (1 <<< n)) []
    ⟨⟨rfl, fun m hm => absurd hm (Nat.not_lt_zero _), fun m hm => absurd hm (Nat.not_lt_zero _)⟩, fun m hm => absurd hm (Nat.not_lt_zero _)⟩ fun i x s hx q => by
      rw [shl_one] at hx
      obtain ⟨e, hi⟩ := rg_get hx
      subst e
      obtain ⟨q1, q2⟩ := q
      have sl := q1.len
      have hne : bases.map (fun b => m_law_count (x &&& b)) ≠ [] := fun z => h.ne (List.map_eq_nil_iff.mp z)
      obtain ⟨m1, m2⟩ := maxL_spec hne
      have ct : ∀ b, m_law_count (x &&& b) = card n (x &&& b) := fun b => (count_ok (and_lt hi)).2
      have mx : MaxM n bases x (maxL ltN (bases.map fun b => m_law_count (x &&& b))) := ⟨by
        obtain ⟨b, hb, e⟩ := List.mem_map.mp m1
        exact ⟨b, hb, by rw [← e, ct]⟩, fun b hb => by
        rw [← ct]; exact m2 _ (List.mem_map.mpr ⟨b, hb, rfl⟩)⟩
      refine ⟨⟨hl, fun b _ => (count_ok (and_lt hi)).1, hne, by omega⟩, ?_, ?_⟩
      · refine q1.snoc _ (fun f => h.yes hi f mx) fun f => ⟨?_, fun i hb => ?_⟩
        · obtain ⟨i, hb, hw⟩ := h.no hi f mx
          exact ⟨i, hb, (hw _ (q2 _ (del_lt hb))).symm⟩
        · exact MaxM.mono (del_sub hb) (q2 _ (del_lt hb)) mx
      · intro m hm
        show MaxM n bases m (nth (s ++ [_]) m)
        by_cases z : m < x
        · rw [nth_append_l (by omega)]; exact q2 m z
        · have : m = x := by omega
          subst this
          have := nth_append_n (l := s) (x := maxL ltN (bases.map fun b => m_law_count (m &&& b)))
          rw [sl] at this
          rw [this]; exact mx
  rw [List.length_range, shl_one] at hf
  obtain ⟨o1, r1, r2⟩ := hf
  have e0 : m_law_ranks n bases = (List.range (2 ^ n)).foldl (fun s2 x3 => st_law_ranks_1 bases s2 x3) [] := by
    rw [← shl_one]; rfl
  refine ⟨⟨by omega, by rw [shl_one]; omega, by rw [shl_one]; exact o1⟩, ?_⟩
  rw [e0]
  generalize (List.range (2 ^ n)).foldl (fun s2 x3 => st_law_ranks_1 bases s2 x3) [] = s at r1 r2
  have ls : las s = k := by
    rw [las_eq r1.len]
    obtain ⟨b, b1, b2⟩ := (r2 (2 ^ n - 1) (by omega)).ex
    obtain ⟨p1, p2, p3⟩ := (h.mem b).mp b1
    rw [← b2, full_and p1, p3]
  refine ⟨⟨F, h.ind, r1⟩, fun m => ?_, r1⟩
  rw [h.mem]
  unfold IsB
  rw [ls]
  constructor
  · rintro ⟨a, b, c⟩
    exact ⟨a, by rw [r1.isR.yes m a b, c], c⟩
  · rintro ⟨a, b, c⟩
    exact ⟨a, (r1.isR.iff h.ind a).mpr (by rw [b, c]), c⟩
theorem nd_len {n : Nat} {l : List Nat} (nd : l.Nodup) (h : ∀ m, m ∈ l → m < 2 ^ n) : l.length ≤ 2 ^ n := by
  have := nd.length_le_of_subset (l₂ := List.range (2 ^ n)) fun x hx => List.mem_range.mpr (h x hx)
  rw [List.length_range] at this
  exact this
theorem Bs.len {n k : Nat} {F : Nat → Prop} {bases : List Nat} (h : Bs n F k bases) (nd : bases.Nodup) (hn : n ≤ 10) : bases.length ≤ 1024 := Nat.le_trans (nd_len nd fun m hm => ((h.mem m).mp hm).1) (two10 hn)
theorem given_ok {g : List Nat} {k : Nat} {F : Nat → Prop} {bases : List Nat} (hg : Gnd g) (h : Bs g.length F k bases) (nd : bases.Nodup) : ok_law_given g bases ∧ m_law_given g bases = mkMat g (m_law_ranks g.length bases) := by
  have hn := hg.len
  have bl := Bs.len h nd hn
  obtain ⟨o1, o2, o3, _⟩ := ranks_good hn h (by omega)
  have e : bases.map (fun x1 => m_law_set g x1) = bases.map (stF g) := List.map_congr_left fun x _ => law_set_eq
  have es : srtL (lexL ltN) (bases.map fun x1 => m_law_set g x1) = srtL (lexL ltN) (baseL g (m_law_ranks g.length bases)) := by
    rw [e]
    refine srt_same so_st (nd_map2 nd fun x y hx hy q => st_inj hg ((h.mem x).mp hx).1 ((h.mem y).mp hy).1 q) (baseL_nd hg) fun x => ?_
    rw [List.mem_map, baseL_mem]
    constructor
    · rintro ⟨m, hm, e⟩
      obtain ⟨a, b, c⟩ := (o3 m).mp hm
      exact ⟨m, a, by unfold isBB; rw [decide_eq_true b, decide_eq_true c]; rfl, e.symm⟩
    · rintro ⟨m, a, b, e⟩
      unfold isBB at b
      rw [Bool.and_eq_true, decide_eq_true_eq, decide_eq_true_eq] at b
      exact ⟨m, (o3 m).mpr ⟨a, b⟩, e.symm⟩
  obtain ⟨i1, i2⟩ := init_ok hg o2
  refine ⟨⟨by omega, fun x _ => t_law_set hn, by rw [List.length_map]; omega, ?_⟩, ?_⟩
  · rw [es]; exact i1
  · show m_init1 g (srtL (lexL ltN) (bases.map fun x1 => m_law_set g x1)) = _
    rw [es, i2]
end K66

/-! LS: links, parts, splits, good splits. -/
namespace K66
open PySem PySem.Spec PyProof.Rows L2 DL PL
def lk (n : Nat) (s : List Nat) (m : Nat) : Int := (((nth s m + nth s ((2 ^ n - 1) ^^^ m)) : Nat) : Int) - ((nth s (2 ^ n - 1) : Nat) : Int)
def Whole (n : Nat) (s : List Nat) : Prop := ∀ m, 0 < m → m < 2 ^ n - 1 → lk n s m ≠ 0
theorem law_link_ok {n : Nat} {s : List Nat} (hs : s.length = 2 ^ n) {m : Nat} (hm : m < 2 ^ n) : ok_law_link s m ∧ m_law_link s m = lk n s m := by
  have hp := Nat.two_pow_pos n
  refine ⟨⟨by omega, by omega, ?_, by omega⟩, ?_⟩
  · rw [hs]; exact compl_lt hm
  · show m_law_link_1 s m (s.length - 1) = _
    rw [hs]; rfl
theorem pc_link_ok {n : Nat} {g : List Nat} {b : List (List Nat)} {s : List Nat} (hs : s.length = 2 ^ n) {m : Nat} (hm : m < 2 ^ n) : ok_pc_link ⟨g, b, s, 2 ^ n - 1⟩ m ∧ m_pc_link ⟨g, b, s, 2 ^ n - 1⟩ m = lk n s m := by
  have hp := Nat.two_pow_pos n
  refine ⟨⟨by show m < s.length; omega, ?_, by show 2 ^ n - 1 < s.length; omega⟩, rfl⟩
  show (2 ^ n - 1) ^^^ m < s.length
  rw [hs]; exact compl_lt hm
theorem compl2 {n m : Nat} : (2 ^ n - 1) ^^^ ((2 ^ n - 1) ^^^ m) = m := by rw [← Nat.xor_assoc, Nat.xor_self, Nat.zero_xor]
theorem lk_symm {n : Nat} {s : List Nat} (m : Nat) : lk n s ((2 ^ n - 1) ^^^ m) = lk n s m := by
  unfold lk
  rw [compl2, Nat.add_comm]
theorem lk_full {n : Nat} {s : List Nat} (hs : RkOk n s) : lk n s (2 ^ n - 1) = 0 := by
  unfold lk
  rw [Nat.xor_self, hs.rf.zero]
  omega
/-- the masks with no link -/
def seps (n : Nat) (s : List Nat) : List Nat := (rgN 1 (2 ^ n)).filter fun m => decide (lk n s m = 0)
theorem rgN_mem {a n x : Nat} : x ∈ rgN a n ↔ a ≤ x ∧ x < n := by
  unfold rgN
  rw [List.mem_map]
  constructor
  · rintro ⟨i, hi, e⟩
    rw [List.mem_range] at hi
    omega
  · rintro ⟨h1, h2⟩
    exact ⟨x - a, List.mem_range.mpr (by omega), by omega⟩
theorem seps_mem {n : Nat} {s : List Nat} {m : Nat} : m ∈ seps n s ↔ 1 ≤ m ∧ m < 2 ^ n ∧ lk n s m = 0 := by
  unfold seps
  rw [List.mem_filter, rgN_mem, decide_eq_true_eq, and_assoc]
def minS (L : List Nat) (x : Nat) : Prop := x ∈ L ∧ ∀ y, y ∈ L → y ≠ x → y &&& x ≠ y
theorem law_parts_ok {n : Nat} {s : List Nat} (hn : n ≤ 10) (hs : s.length = 2 ^ n) : ok_law_part_masks s ∧ ∀ x, x ∈ m_law_part_masks s ↔ minS (seps n s) x := by
  have t10 := two10 hn
  have e : ((rgN 1 s.length).filter fun x1 => decide (m_law_link s x1 = 0)).map (fun x1 => x1) = seps n s := by
    rw [List.map_id', hs]
    unfold seps
    refine List.filter_congr fun x hx => ?_
    rw [rgN_mem] at hx
    rw [(law_link_ok hs hx.2).2]
  have sl : (seps n s).length ≤ 1000000 := by
    have := List.length_filter_le (fun m => decide (lk n s m = 0)) (rgN 1 (2 ^ n))
    rw [rgN_len] at this
    unfold seps
    omega
  refine ⟨⟨⟨by decide, by omega⟩, by rw [rgN_len]; omega, fun x hx => ?_, ?_⟩, fun x => ?_⟩
  · rw [rgN_mem, hs] at hx
    exact (law_link_ok hs hx.2).1
  · rw [e]
    exact ⟨sl, fun _ _ => sl⟩
  · show x ∈ m_law_part_masks_1 (((rgN 1 s.length).filter fun x1 => decide (m_law_link s x1 = 0)).map (fun x1 => x1)) ↔ _
    rw [e]
    unfold m_law_part_masks_1 minS
    rw [List.map_id', List.mem_filter, decide_eq_true_eq, List.map_eq_nil_iff, List.filter_eq_nil_iff]
    refine and_congr_right fun _ => ⟨fun h y hy ne q => h y hy ?_, fun h y hy q => ?_⟩
    · rw [Bool.and_eq_true, Bool.not_eq_true', decide_eq_false_iff_not, decide_eq_true_eq]
      exact ⟨ne, q⟩
    · rw [Bool.and_eq_true, Bool.not_eq_true', decide_eq_false_iff_not, decide_eq_true_eq] at q
      exact h y hy q.1 q.2
theorem sub_and {a b : Nat} : a &&& b = a ↔ Sub a b := by
  constructor
  · intro e i h
    have : (a &&& b).testBit i = true := by rw [e]; exact h
    rw [Nat.testBit_and, Bool.and_eq_true] at this
    exact this.2
  · intro h
    refine (Sub.andl a b).antisymm fun i z => ?_
    rw [Nat.testBit_and, z, h i z]; rfl
theorem minS_ex {L : List Nat} {x : Nat} (h : x ∈ L) : ∃ y, minS L y ∧ Sub y x := by
  obtain ⟨y, ⟨y1, y2⟩, y3⟩ := least_ex (fun y => y ∈ L ∧ Sub y x) x ⟨h, Sub.refl x⟩
  refine ⟨y, ⟨y1, fun z hz ne q => ?_⟩, y2⟩
  have q2 := sub_and.mp q
  have := y3 z ⟨hz, q2.trans y2⟩
  exact ne (Nat.le_antisymm q2.le this)
/-- just one part, no part between -/
theorem whole_of {n : Nat} {s : List Nat} (hn : n ≤ 10) (hs : s.length = 2 ^ n) (h : (m_law_part_masks s).length = 1) : Whole n s := by
  intro m h0 h1 e
  have hm : m < 2 ^ n := by omega
  have sub := full_sub hm
  have mem := (law_parts_ok hn hs).2
  have c0 : (2 ^ n - 1) ^^^ m ≠ 0 := fun z => by
    have := compl2 (n := n) (m := m)
    rw [z, Nat.xor_zero] at this
    omega
  obtain ⟨y, y1, y2⟩ := minS_ex (seps_mem.mpr ⟨h0, hm, e⟩)
  obtain ⟨z, z1, z2⟩ := minS_ex (seps_mem.mpr ⟨show 1 ≤ (2 ^ n - 1) ^^^ m by omega, compl_lt hm, by rw [lk_symm]; exact e⟩)
  have hy := (mem y).mpr y1
  have hz := (mem z).mpr z1
  match hL : m_law_part_masks s, h with
  | [w], _ =>
    rw [hL, List.mem_singleton] at hy hz
    subst hy
    subst hz
    obtain ⟨i, hi⟩ := ex_bit (E := z) (by have := (seps_mem.mp y1.1).1; omega)
    have a := y2 i hi
    have b := z2 i hi
    rw [Nat.testBit_xor, a, sub i a] at b
    cases b
/-! ### the package's parts -/
theorem whl_stop {S : Type} {c : S → Bool} {f : S → S} {s : S} (h : c s = false) : ∀ n, whl c f n s = s
  | 0 => rfl
  | n + 1 => by unfold whl; rw [if_neg (by rw [h]; exact Bool.false_ne_true)]
theorem okW_stop {S : Type} {ok : S → Prop} {c : S → Bool} {f : S → S} {s : S} (h : c s = false) : ∀ n, okW (fun _ => True) ok c f n s
  | 0 => ⟨trivial, h⟩
  | n + 1 => ⟨trivial, fun z => by rw [h] at z; cases z⟩
theorem lowb_full {n : Nat} (h : 1 ≤ n) : 0 < (2 ^ n - 1) &&& lowb (2 ^ n - 1) := by
  have hp := Nat.two_pow_pos (n - 1)
  have e2 : 2 ^ n = 2 * 2 ^ (n - 1) := by rw [← Nat.pow_succ', show (n - 1).succ = n by omega]
  have e : (2 ^ n - 1) &&& (2 ^ n - 1 - 1) = 2 ^ n - 1 - 1 := by
    rw [Nat.and_comm]
    exact sub_and.mpr (full_sub (by omega))
  unfold lowb
  rw [e, show 2 ^ n - 1 - (2 ^ n - 1 - 1) = 1 by omega, Nat.and_one_is_mod]
  omega
theorem pc_parts {n : Nat} {g : List Nat} {b : List (List Nat)} {s : List Nat} (h1 : 1 ≤ n) (hn : n ≤ 10) (hs : RkOk n s) (hw : Whole n s) : ok_pc_part_masks ⟨g, b, s, 2 ^ n - 1⟩ ∧ m_pc_part_masks ⟨g, b, s, 2 ^ n - 1⟩ = [2 ^ n - 1] := by
  have t10 := two10 hn
  have e2 : 2 ≤ 2 ^ n := Nat.pow_le_pow_right (n := 2) (by decide) h1
  have hl := hs.len
  have some_mem : ∀ x, x ∈ ((((rgN 1 (2 ^ n - 1 + 1)).filter fun x2 => decide (x2 &&& (2 ^ n - 1) = x2) && decide (0 < x2 &&& m_pc_lowest (2 ^ n - 1))).map fun x2 => x2).filter fun x4 => decide (m_pc_link ⟨g, b, s, 2 ^ n - 1⟩ x4 = 0)).map (fun x4 => x4) ↔ x = 2 ^ n - 1 := fun x => by
    rw [List.map_id', List.map_id', List.mem_filter, List.mem_filter, rgN_mem, decide_eq_true_eq, Bool.and_eq_true, decide_eq_true_eq, decide_eq_true_eq]
    constructor
    · rintro ⟨⟨⟨a1, a2⟩, _⟩, a3⟩
      rw [(pc_link_ok hl (by omega)).2] at a3
      by_cases z : x < 2 ^ n - 1
      · exact absurd a3 (hw x a1 z)
      · omega
    · intro e
      subst e
      refine ⟨⟨⟨by omega, by omega⟩, Nat.and_self _, lowb_full h1⟩, ?_⟩
      rw [(pc_link_ok hl (by omega)).2]
      exact lk_full hs
  have len1 : (((rgN 1 (2 ^ n - 1 + 1)).filter fun x2 => decide (x2 &&& (2 ^ n - 1) = x2) && decide (0 < x2 &&& m_pc_lowest (2 ^ n - 1))).map fun x2 => x2).length ≤ 1000000 := by
    rw [List.length_map]
    have := List.length_filter_le (fun x2 => decide (x2 &&& (2 ^ n - 1) = x2) && decide (0 < x2 &&& m_pc_lowest (2 ^ n - 1))) (rgN 1 (2 ^ n - 1 + 1))
    rw [rgN_len] at this
    omega
  generalize eL : ((((rgN 1 (2 ^ n - 1 + 1)).filter fun x2 => decide (x2 &&& (2 ^ n - 1) = x2) && decide (0 < x2 &&& m_pc_lowest (2 ^ n - 1))).map fun x2 => x2).filter fun x4 => decide (m_pc_link ⟨g, b, s, 2 ^ n - 1⟩ x4 = 0)).map (fun x4 => x4) = L at some_mem
  have len2 : L.length ≤ 1000000 := by
    rw [← eL, List.length_map]
    exact Nat.le_trans (List.length_filter_le _ _) len1
  have ne : L.map (fun x6 => ([m_ones_of x6, x6] : List Nat)) ≠ [] := fun z => by
    have := (some_mem (2 ^ n - 1)).mpr rfl
    rw [List.map_eq_nil_iff.mp z] at this; cases this
  obtain ⟨m1, _⟩ := minL_all (so_lex so_nat) ne
  obtain ⟨y, hy, ey⟩ := List.mem_map.mp m1
  rw [some_mem] at hy
  subst hy
  have st0 : st_pc_part_masks_9 ⟨g, b, s, 2 ^ n - 1⟩ ([], 2 ^ n - 1) = ([2 ^ n - 1], 0) := by
    show m_pc_part_masks_4 ([], 2 ^ n - 1) (List.map (fun x4 => x4) _) = _
    rw [eL]
    unfold m_pc_part_masks_4
    rw [← ey, show nth ([m_ones_of (2 ^ n - 1), 2 ^ n - 1] : List Nat) 1 = 2 ^ n - 1 from nth_get? rfl]
    show ([2 ^ n - 1], (2 ^ n - 1) ^^^ (2 ^ n - 1)) = _
    rw [Nat.xor_self]
  have c0 : wc_pc_part_masks_8 ([], 2 ^ n - 1) = true := decide_eq_true (show 0 < 2 ^ n - 1 by omega)
  have c1 : wc_pc_part_masks_8 ([2 ^ n - 1], 0) = false := rfl
  have fu : 2 ^ n - 1 = 2 ^ n - 2 + 1 := by omega
  constructor
  · show okW _ _ _ _ (2 ^ n - 1) (([] : List Nat), 2 ^ n - 1)
    generalize hk : 2 ^ n - 1 = k at *
    have : ∃ j, k = j + 1 := ⟨k - 1, by omega⟩
    obtain ⟨j, ej⟩ := this
    suffices H : okW (fun _ => True) (fun s1 => sk_pc_part_masks_10 ⟨g, b, s, k⟩ s1) (fun s1 => wc_pc_part_masks_8 s1) (fun s1 => st_pc_part_masks_9 ⟨g, b, s, k⟩ s1) (j + 1) ([], k) by rw [← ej] at H; exact H
    refine ⟨trivial, fun _ => ⟨⟨⟨by decide, by show k + 1 < 2 ^ 62; omega⟩, ?_, fun _ _ _ => trivial, ⟨len1, fun x hx => ?_, ?_⟩⟩, ?_⟩⟩
    · show (rgN 1 (k + 1)).length ≤ 1000000
      rw [rgN_len]; omega
    · rw [List.map_id', List.mem_filter, rgN_mem] at hx
      have := (pc_link_ok (g := g) (b := b) hl (m := x) (by have := hx.1.2; show x < 2 ^ n; omega)).1
      rw [hk] at this
      exact this
    · show ok_pc_part_masks_5 ([], k) (List.map (fun x4 => x4) _)
      rw [eL]
      refine ⟨len2, fun x hx => ?_, ne, ?_, by show (0 : Nat) ≤ 1000000; decide⟩
      · rw [some_mem] at hx
        show x < 16777216
        omega
      · rw [← ey]; exact (by decide : 1 < 2)
    · show okW _ _ _ _ j (st_pc_part_masks_9 ⟨g, b, s, k⟩ ([], k))
      rw [st0]
      exact okW_stop c1 j
  · show (whl _ _ (2 ^ n - 1) (([] : List Nat), 2 ^ n - 1)).1 = _
    have : ∃ j, 2 ^ n - 1 = j + 1 := ⟨2 ^ n - 1 - 1, by omega⟩
    obtain ⟨j, ej⟩ := this
    have H : whl (fun s1 => wc_pc_part_masks_8 s1) (fun s1 => st_pc_part_masks_9 ⟨g, b, s, 2 ^ n - 1⟩ s1) (j + 1) ([], 2 ^ n - 1) = ([2 ^ n - 1], 0) := by
      unfold whl
      rw [if_pos c0, st0]
      exact whl_stop c1 j
    rw [← ej] at H
    rw [H]
end K66

/-! LT: splits and good splits, of the dual too. -/
namespace K66
open PySem PySem.Spec PyProof.Rows L2 DL PL
theorem fold_filter {α : Type} {p : α → Bool} {f : List α → α → List α} (h : ∀ s x, f s x = if p x = true then s ++ [x] else s) : ∀ (l s : List α), l.foldl f s = s ++ l.filter p
  | [], s => by rw [List.foldl_nil, List.filter_nil, List.append_nil]
  | x :: l, s => by
    rw [List.foldl_cons, fold_filter h l, h, List.filter_cons]
    by_cases e : p x = true
    · rw [if_pos e, if_pos e, List.append_assoc]; rfl
    · rw [if_neg e, if_neg e]
theorem fold_okF {α : Type} {p : α → Bool} {f : List α → α → List α} {ok : List α → α → Prop} (h : ∀ s x, f s x = if p x = true then s ++ [x] else s) (l : List α) (hl : l.length ≤ 1000000) (ho : ∀ s x, x ∈ l → s.length ≤ 1000000 → ok s x) : okF ok f l [] :=
  (fold_inv0 (fun i s => s.length ≤ i) l [] (Nat.le_refl _) fun i x s hx q => by
    have hi := (List.getElem?_eq_some_iff.mp hx).1
    refine ⟨ho s x (List.mem_of_getElem? hx) (by omega), ?_⟩
    rw [h]
    split
    · rw [List.length_append]; exact Nat.succ_le_succ q
    · exact Nat.le_succ_of_le q).1
/-- the masks of splits -/
def isS (n : Nat) (s : List Nat) (m : Nat) : Bool := (decide (2 ≤ card n m) && decide (card n m ≤ n - 2)) && decide (lk n s m = 1)
def spl (n : Nat) (s : List Nat) : List Nat := (odds (2 ^ n - 1)).filter (isS n s)
theorem odds_mem {k x : Nat} (h : x ∈ odds k) : x < k := by
  unfold odds at h
  obtain ⟨i, hi, e⟩ := List.mem_map.mp h
  rw [List.mem_range] at hi
  omega
theorem odds_len (k : Nat) : (odds k).length = k / 2 := by unfold odds; rw [List.length_map, List.length_range]
theorem spl_lt {n : Nat} {s : List Nat} {m : Nat} (h : m ∈ spl n s) : m < 2 ^ n := by
  have := odds_mem (List.mem_filter.mp h).1
  omega
theorem spl_len {n : Nat} {s : List Nat} (hn : n ≤ 10) : (spl n s).length ≤ 512 := by
  have t10 := two10 hn
  have := List.length_filter_le (isS n s) (odds (2 ^ n - 1))
  rw [odds_len] at this
  unfold spl
  omega
theorem pc_splits {n : Nat} {g : List Nat} {b : List (List Nat)} {s : List Nat} (hg : g.length = n) (h2 : 2 ≤ n) (hn : n ≤ 10) (hs : s.length = 2 ^ n) : ok_pc_split_masks ⟨g, b, s, 2 ^ n - 1⟩ ∧ m_pc_split_masks ⟨g, b, s, 2 ^ n - 1⟩ = spl n s := by
  have t10 := two10 hn
  have e0 : ∀ l x, st_pc_split_masks_1 ⟨g, b, s, 2 ^ n - 1⟩ l x = if ((decide (2 ≤ m_ones_of x) && decide (m_ones_of x ≤ g.length - 2)) && decide (m_pc_link ⟨g, b, s, 2 ^ n - 1⟩ x = 1)) = true then l ++ [x] else l := fun _ _ => rfl
  refine ⟨⟨by show 2 ^ n - 1 < 2 ^ 61; omega, fold_okF e0 _ (by rw [odds_len]; show (2 ^ n - 1) / 2 ≤ 1000000; omega) fun l x hx hl => ?_⟩, ?_⟩
  · have hx := odds_mem hx
    have hx : x < 2 ^ n := by have : x < 2 ^ n - 1 := hx; omega
    exact ⟨by show x < 16777216; omega, fun _ => by show 2 ≤ g.length; omega, fun _ => (pc_link_ok hs hx).1, fun _ => hl⟩
  · show (odds (2 ^ n - 1)).foldl (fun s1 x2 => st_pc_split_masks_1 ⟨g, b, s, 2 ^ n - 1⟩ s1 x2) [] = _
    rw [fold_filter e0, List.nil_append]
    unfold spl
    refine List.filter_congr fun x hx => ?_
    have hx := odds_mem hx
    have hx : x < 2 ^ n := by omega
    unfold isS m_ones_of
    rw [pop_card n x hx, (pc_link_ok hs hx).2, hg]
theorem odds_two {n : Nat} (h : 1 ≤ n) : odds (2 ^ n) = odds (2 ^ n - 1) ++ [2 ^ n - 1] := by
  have hp := Nat.two_pow_pos (n - 1)
  have e2 : 2 ^ n = 2 * 2 ^ (n - 1) := by rw [← Nat.pow_succ', show (n - 1).succ = n by omega]
  unfold odds
  rw [show 2 ^ n / 2 = (2 ^ n - 1) / 2 + 1 by omega, List.range_succ, List.map_append]
  rw [List.map_singleton, show 1 + (2 ^ n - 1) / 2 * 2 = 2 ^ n - 1 by omega]
theorem law_splits {n : Nat} {s : List Nat} (h2 : 2 ≤ n) (hn : n ≤ 10) (hs : s.length = 2 ^ n) : ok_law_split_masks n s ∧ m_law_split_masks n s = spl n s := by
  have t10 := two10 hn
  have e0 : ∀ l x, st_law_split_masks_1 n s l x = if ((decide (1 < m_law_count x) && decide (m_law_count x < n - 1)) && decide (m_law_link s x = 1)) = true then l ++ [x] else l := fun _ _ => rfl
  have same : ∀ x, x < 2 ^ n → ((decide (1 < m_law_count x) && decide (m_law_count x < n - 1)) && decide (m_law_link s x = 1)) = isS n s x := fun x hx => by
    unfold isS
    rw [(count_ok hx).2, (law_link_ok hs hx).2]
    congr 2
    exact decide_eq_decide.mpr ⟨fun _ => by omega, fun _ => by omega⟩
  refine ⟨⟨by omega, fold_okF e0 _ (by rw [odds_len]; omega) fun l x hx hl => ?_⟩, ?_⟩
  · have hx := odds_mem hx
    rw [hs] at hx
    exact ⟨(count_ok hx).1, fun _ => by omega, fun _ => (law_link_ok hs hx).1, fun _ => hl⟩
  · show (odds s.length).foldl (fun s2 x3 => st_law_split_masks_1 n s s2 x3) [] = _
    rw [fold_filter e0, List.nil_append, hs, odds_two (by omega), List.filter_append]
    have z : isS n s (2 ^ n - 1) = false := by
      unfold isS
      rw [card_full n n (Nat.le_refl _), decide_eq_false (show ¬ n ≤ n - 2 by omega), Bool.and_false, Bool.false_and]
    rw [List.filter_cons, List.filter_nil, same _ (by have := Nat.two_pow_pos n; omega), z, if_neg Bool.false_ne_true, List.append_nil]
    unfold spl
    refine List.filter_congr fun x hx => ?_
    have hx := odds_mem hx
    exact same x (by omega)
/-! ### crossing -/
theorem sub_zero {n a b : Nat} (ha : a < 2 ^ n) : a &&& ((2 ^ n - 1) ^^^ b) = 0 ↔ Sub a b := by
  constructor
  · intro e i h
    have : (a &&& ((2 ^ n - 1) ^^^ b)).testBit i = false := by rw [e]; exact Nat.zero_testBit i
    rw [Nat.testBit_and, Nat.testBit_xor, h, full_sub ha i h] at this
    simpa using this
  · intro h
    refine Nat.eq_of_testBit_eq fun i => ?_
    rw [Nat.testBit_and, Nat.testBit_xor, Nat.zero_testBit]
    cases e : a.testBit i with
    | false => rfl
    | true => rw [h i e, full_sub ha i e]; rfl
theorem andn_zero {a b : Nat} : andn a b = 0 ↔ Sub a b := by
  unfold andn
  rw [← sub_and]
  have : a &&& b ≤ a := Nat.and_le_left
  omega
theorem full_or {n a b : Nat} : Sub (2 ^ n - 1) (a ||| b) ↔ ((2 ^ n - 1) ^^^ a) &&& ((2 ^ n - 1) ^^^ b) = 0 ∨ ¬ (a < 2 ^ n ∧ b < 2 ^ n) ∧ Sub (2 ^ n - 1) (a ||| b) := by
  by_cases h : a < 2 ^ n ∧ b < 2 ^ n
  · have e : (((2 ^ n - 1) ^^^ a) &&& ((2 ^ n - 1) ^^^ b) = 0) ↔ Sub (2 ^ n - 1) (a ||| b) := by
      rw [sub_zero (compl_lt h.1)]
      constructor
      · intro q i z
        rw [Nat.testBit_or]
        cases w : a.testBit i with
        | true => rfl
        | false => rw [q i (by rw [Nat.testBit_xor, z, w]; rfl)]; rfl
      · intro q i z
        rw [Nat.testBit_xor] at z
        cases w : a.testBit i with
        | true => rw [w, full_sub h.1 i w] at z; cases z
        | false =>
          rw [w, Bool.xor_false] at z
          have := q i z
          rw [Nat.testBit_or, w] at this
          exact this
    rw [e]
    exact ⟨.inl, fun q => q.elim id fun q => absurd h q.1⟩
  · constructor
    · intro q; exact .inr ⟨h, q⟩
    · rintro (q | q)
      · intro i z
        have : (((2 ^ n - 1) ^^^ a) &&& ((2 ^ n - 1) ^^^ b)).testBit i = false := by rw [q]; exact Nat.zero_testBit i
        rw [Nat.testBit_and, Nat.testBit_xor, Nat.testBit_xor, z] at this
        rw [Nat.testBit_or]
        revert this
        cases a.testBit i <;> cases b.testBit i <;> simp
      · exact q.2
theorem cross_eq {n a b : Nat} (ha : a < 2 ^ n) (hb : b < 2 ^ n) : m_pc_cross a b (2 ^ n - 1) = !decide (0 ∈ ([a &&& b, a &&& ((2 ^ n - 1) ^^^ b), ((2 ^ n - 1) ^^^ a) &&& b, ((2 ^ n - 1) ^^^ a) &&& ((2 ^ n - 1) ^^^ b)] : List Nat)) := by
  have e1 := sub_zero (n := n) (b := b) ha
  have e2 := sub_zero (n := n) (b := a) hb
  have e3 := full_or (n := n) (a := a) (b := b)
  have e4 := andn_zero (a := a) (b := b)
  have e5 := andn_zero (a := b) (b := a)
  have e6 := andn_zero (a := 2 ^ n - 1) (b := a ||| b)
  have p : ∀ x : Nat, decide (0 < x) = !decide (x = 0) := fun x => by
    by_cases z : x = 0
    · subst z; rfl
    · rw [decide_eq_true (show 0 < x by omega), decide_eq_false z]; rfl
  unfold m_pc_cross
  rw [p, p, p, p]
  rw [show decide (andn a b = 0) = decide (a &&& ((2 ^ n - 1) ^^^ b) = 0) from decide_eq_decide.mpr (e4.trans e1.symm),
    show decide (andn b a = 0) = decide (((2 ^ n - 1) ^^^ a) &&& b = 0) from decide_eq_decide.mpr (e5.trans (by rw [Nat.and_comm]; exact e2.symm)),
    show decide (andn (2 ^ n - 1) (a ||| b) = 0) = decide (((2 ^ n - 1) ^^^ a) &&& ((2 ^ n - 1) ^^^ b) = 0) from decide_eq_decide.mpr (e6.trans (e3.trans ⟨fun q => q.elim id fun q => absurd ⟨ha, hb⟩ q.1, .inl⟩))]
  have q : ∀ x : Nat, decide (0 = x) = decide (x = 0) := fun x => decide_eq_decide.mpr ⟨Eq.symm, Eq.symm⟩
  simp only [List.mem_cons, List.not_mem_nil, or_false, Bool.decide_or, q, Bool.not_or]
theorem good_ok {n : Nat} {g : List Nat} {b : List (List Nat)} {s : List Nat} (hg : g.length = n) (h2 : 2 ≤ n) (hn : n ≤ 10) (hs : s.length = 2 ^ n) :
    ok_pc_good_masks ⟨g, b, s, 2 ^ n - 1⟩ ∧ ok_law_good_masks n s ∧ m_pc_good_masks ⟨g, b, s, 2 ^ n - 1⟩ = m_law_good_masks n s ∧ (∀ m, m ∈ m_law_good_masks n s → m < 2 ^ n) ∧ (m_law_good_masks n s).length ≤ 512 := by
  have t10 := two10 hn
  have hp := Nat.two_pow_pos n
  obtain ⟨p1, p2⟩ := pc_splits (b := b) hg h2 hn hs
  obtain ⟨l1, l2⟩ := law_splits h2 hn hs
  have sl := spl_len (s := s) hn
  have lf : s.length - 1 = 2 ^ n - 1 := by rw [hs]
  -- the clashes
  have clash : ∀ x, x ∈ spl n s → ∀ (l c : List Nat), (∀ y, y ∈ l → y < 2 ^ n) → c.length + l.length ≤ 1000000 → okF (fun s5 x6 => sk_law_good_masks_5 s x s5 x6) (fun s5 x6 => st_law_good_masks_4 s x s5 x6) l c ∧ (l.foldl (fun s5 x6 => st_law_good_masks_4 s x s5 x6) c = [] ↔ c = [] ∧ ∀ y, y ∈ l → m_pc_cross x y (2 ^ n - 1) = false) := by
    intro x hx l
    have hx := spl_lt hx
    induction l with
    | nil => intro c _ _; exact ⟨trivial, ⟨fun q => ⟨q, fun y h => by cases h⟩, fun q => q.1⟩⟩
    | cons y l ih =>
      intro c hl hc
      have hy := hl y List.mem_cons_self
      rw [List.length_cons] at hc
      have e : st_law_good_masks_4 s x c y = c ++ List.replicate (m_pc_cross x y (2 ^ n - 1)).toNat y := by
        rw [cross_eq hx hy, ← lf]; rfl
      have tn : (m_pc_cross x y (2 ^ n - 1)).toNat ≤ 1 := by cases m_pc_cross x y (2 ^ n - 1) <;> decide
      have lr : (List.replicate (m_pc_cross x y (2 ^ n - 1)).toNat y).length ≤ 1 := by rw [List.length_replicate]; exact tn
      obtain ⟨i1, i2⟩ := ih (c ++ List.replicate (m_pc_cross x y (2 ^ n - 1)).toNat y) (fun z h => hl z (List.mem_cons_of_mem _ h)) (by rw [List.length_append]; omega)
      refine ⟨⟨?_, by show okF _ _ l (st_law_good_masks_4 s x c y); rw [e]; exact i1⟩, ?_⟩
      · show ok_law_good_masks_3 c y _
        rw [lf]
        unfold ok_law_good_masks_3
        rw [← cross_eq hx hy]
        exact ⟨by omega, by omega⟩
      · rw [List.foldl_cons, e, i2, List.append_eq_nil_iff, List.replicate_eq_nil_iff]
        constructor
        · rintro ⟨⟨a, b⟩, c⟩
          refine ⟨a, fun z hz => ?_⟩
          rcases List.mem_cons.mp hz with w | w
          · subst w
            cases q : m_pc_cross x z (2 ^ n - 1) with
            | false => rfl
            | true => rw [q] at b; cases b
          · exact c z w
        · rintro ⟨a, b⟩
          exact ⟨⟨a, by rw [b y List.mem_cons_self]; rfl⟩, fun z hz => b z (List.mem_cons_of_mem _ hz)⟩
  have all : ∀ y, y ∈ spl n s → y < 2 ^ n := fun y h => spl_lt h
  let p : Nat → Bool := fun x => decide ((spl n s).foldl (fun s5 x6 => st_law_good_masks_4 s x s5 x6) [] = [])
  have e0 : ∀ l x, st_law_good_masks_10 n s l x = if p x = true then l ++ [x] else l := fun l x => by
    show m_law_good_masks_6 l x ((m_law_split_masks n s).foldl (fun s5 x6 => st_law_good_masks_4 s x s5 x6) []) = _
    rw [l2]; rfl
  have ml : m_law_good_masks n s = (spl n s).filter p := by
    show (m_law_split_masks n s).foldl (fun s1 x2 => st_law_good_masks_10 n s s1 x2) [] = _
    rw [l2, fold_filter e0, List.nil_append]
  refine ⟨⟨p1, ?_⟩, ⟨l1, by rw [hs]; omega, ?_⟩, ?_, fun m hm => ?_, ?_⟩
  · rw [p2]
    exact ⟨by omega, fun _ _ => ⟨by omega, fun _ _ => trivial⟩⟩
  · rw [l2]
    refine fold_okF e0 _ (by omega) fun l x hx hl => ?_
    show ok_law_good_masks_9 n s l x []
    unfold ok_law_good_masks_9
    rw [l2]
    exact ⟨(clash x hx (spl n s) [] all (by rw [List.length_nil]; omega)).1, fun _ => hl⟩
  · rw [ml]
    show m_pc_good_masks_1 ⟨g, b, s, 2 ^ n - 1⟩ (m_pc_split_masks ⟨g, b, s, 2 ^ n - 1⟩) = _
    rw [p2]
    unfold m_pc_good_masks_1
    rw [List.map_id']
    refine List.filter_congr fun x hx => ?_
    have q := (clash x hx (spl n s) [] all (by rw [List.length_nil]; omega)).2
    by_cases c : ∀ y, y ∈ spl n s → m_pc_cross x y (2 ^ n - 1) = false
    · rw [show p x = true from decide_eq_true (q.mpr ⟨rfl, c⟩), Bool.not_eq_true', List.any_map, List.any_eq_false]
      intro y hy
      show ¬ m_pc_cross x y (2 ^ n - 1) = true
      rw [c y hy]; exact Bool.false_ne_true
    · rw [show p x = false from decide_eq_false fun w => c (q.mp w).2, Bool.not_eq_false', List.any_map, List.any_eq_true]
      refine Classical.byContradiction fun w => c fun y hy => ?_
      cases z : m_pc_cross x y (2 ^ n - 1) with
      | false => rfl
      | true => exact absurd ⟨y, hy, z⟩ w
  · rw [ml] at hm
    exact all m (List.mem_filter.mp hm).1
  · rw [ml]
    exact Nat.le_trans (List.length_filter_le _ _) sl
/-! ### duals -/
theorem lk_dual {n : Nat} {s : List Nat} (hs : RkOk n s) {m : Nat} (hm : m < 2 ^ n) : lk n (dualR n s) m = lk n s m := by
  have hp := Nat.two_pow_pos n
  obtain ⟨_, ge⟩ := dual_rk hs
  have at_ : ∀ m, m < 2 ^ n → nth (dualR n s) m = card n m + nth s ((2 ^ n - 1) ^^^ m) - las s := fun m hm => by
    unfold dualR
    rw [nth_map (by rw [List.length_range]; exact hm), nth_range hm]
  unfold lk
  rw [at_ m hm, at_ _ (compl_lt hm), at_ (2 ^ n - 1) (by omega), compl2, Nat.xor_self, hs.rf.zero, card_full n n (Nat.le_refl _), Nat.add_zero, las_eq hs.len]
  have h1 := ge m hm
  have h2 := ge _ (compl_lt hm)
  have h3 := ge (2 ^ n - 1) (by omega)
  rw [las_eq hs.len] at h1 h2 h3
  rw [compl2] at h2
  rw [Nat.xor_self, hs.rf.zero, card_full n n (Nat.le_refl _)] at h3
  have := card_compl hm
  omega
theorem Whole.dual {n : Nat} {s : List Nat} (hs : RkOk n s) (h : Whole n s) : Whole n (dualR n s) := fun m h0 h1 => by
  rw [lk_dual hs (by omega)]; exact h m h0 h1
theorem spl_dual {n : Nat} {s : List Nat} (hs : RkOk n s) : spl n (dualR n s) = spl n s := by
  unfold spl
  refine List.filter_congr fun x hx => ?_
  have hx := odds_mem hx
  unfold isS
  rw [lk_dual hs (by omega)]
theorem good_dual {n : Nat} {g : List Nat} {b b' : List (List Nat)} {s : List Nat} (hg : g.length = n) (h2 : 2 ≤ n) (hn : n ≤ 10) (hs : RkOk n s) : m_pc_good_masks ⟨g, b', dualR n s, 2 ^ n - 1⟩ = m_pc_good_masks ⟨g, b, s, 2 ^ n - 1⟩ := by
  show m_pc_good_masks_1 _ (m_pc_split_masks _) = m_pc_good_masks_1 _ (m_pc_split_masks _)
  rw [(pc_splits hg h2 hn hs.len).2, (pc_splits hg h2 hn (dual_rk hs).1.len).2, spl_dual hs]
  rfl
/-! ### the told sets -/
theorem told_ok {n : Nat} {g : List Nat} {b : List (List Nat)} {s : List Nat} (hg : g.length = n) (h2 : 2 ≤ n) (hn : n ≤ 10) (hs : RkOk n s) (hw : Whole n s) :
    ok_good_splits_of ⟨g, b, s, 2 ^ n - 1⟩ ∧ m_good_splits_of ⟨g, b, s, 2 ^ n - 1⟩ = srtL (lexL ltN) ((m_law_good_masks n s).map (stF g)) ∧ ok_law_sorted_sets g (m_law_good_masks n s) ∧ m_law_sorted_sets g (m_law_good_masks n s) = srtL (lexL ltN) ((m_law_good_masks n s).map (stF g)) := by
  obtain ⟨a1, a2, a3, a4, a5⟩ := good_ok (b := b) hg h2 hn hs.len
  obtain ⟨w1, w2⟩ := pc_parts (g := g) (b := b) (by omega) hn hs hw
  refine ⟨⟨trivial, ⟨w1, by rw [w2]; rfl⟩, a1, ?_⟩, ?_, ⟨by omega, fun x _ => t_law_set (by omega), by rw [List.length_map]; omega⟩, ?_⟩
  · rw [a3]
    exact ⟨by omega, fun x _ => t_set_from (by show g.length ≤ 10; omega), by rw [List.length_map]; omega⟩
  · show srtL (lexL ltN) ((m_pc_good_masks ⟨g, b, s, 2 ^ n - 1⟩).map fun x1 => m_set_from g x1) = _
    rw [a3]
    congr 1
    exact List.map_congr_left fun x _ => set_from_eq
  · show srtL (lexL ltN) ((m_law_good_masks n s).map fun x1 => m_law_set g x1) = _
    congr 1
    exact List.map_congr_left fun x _ => law_set_eq
end K66

/-! LU: the law's draws: numbers, grounds, orders, sizes, sparse bases. -/
namespace K66
open PySem PySem.Spec PyProof.Rows L2 DL PL
structure SrcB (N : Nat) (s : List Int) : Prop where
  len : s.length = 3
  lo : 0 ≤ nth s 1
  hi : nth s 1 ≤ (N : Int)
theorem SrcB.mono {N M : Nat} {s : List Int} (h : SrcB N s) (g : N ≤ M) : SrcB M s := ⟨h.len, h.lo, by have := h.hi; omega⟩
theorem nx {N : Nat} {s : List Int} {b : Nat} (h : SrcB N s) (hN : N ≤ 100000000) (hb : 0 < b ∧ b ≤ 1000000) : ok_law_next s b ∧ (m_law_next s b).1 < b ∧ SrcB (N + 1) (m_law_next s b).2 := by
  have hl := h.len
  have h1 := h.lo
  have h2 := h.hi
  have md : ∀ i : Int, (i % (b : Int)).toNat < b := fun i => by
    have a1 := Int.emod_nonneg i (b := (b : Int)) (by omega)
    have a2 := Int.emod_lt_of_pos i (b := (b : Int)) (by omega)
    omega
  have t1 : nth (s.set 1 (nth s 1 + 1)) 1 = nth s 1 + 1 := by rw [nth_set (by omega), if_pos rfl]
  have b1 : ((nth s 1 + 1) % (11 : Int)).toNat < 11 := by
    have a1 := Int.emod_nonneg (nth s 1 + 1) (b := (11 : Int)) (by decide)
    have a2 := Int.emod_lt_of_pos (nth s 1 + 1) (b := (11 : Int)) (by decide)
    omega
  have pr : ∀ p, p ∈ ([2147483647, 2147483629, 2147483587, 2147483579, 2147483563, 2147483549, 2147483543, 2147483497] ++ [2147483489, 2147483477, 2147483423] : List Nat) → 0 < p ∧ p < 2147483648 := by decide
  refine ⟨⟨by omega, fun _ => ⟨by omega, hb.1, by omega, ⟨by omega, by omega⟩, by omega⟩, fun _ => ⟨by omega, by omega, by decide, by rw [List.length_set]; omega, by decide, by rw [t1]; exact b1, ?_⟩⟩, ?_⟩
  · rw [t1]
    generalize hp : nth ([2147483647, 2147483629, 2147483587, 2147483579, 2147483563, 2147483549, 2147483543, 2147483497] ++ [2147483489, 2147483477, 2147483423] : List Nat) ((nth s 1 + 1) % 11).toNat = p
    have pm := pr p (by rw [← hp]; exact nth_mem b1)
    unfold ok_law_next_6
    rw [t1]
    have a1 := Int.emod_nonneg (nth (s.set 1 (nth s 1 + 1)) 0) (b := (p : Int)) (by omega)
    have a2 := Int.emod_lt_of_pos (nth (s.set 1 (nth s 1 + 1)) 0) (b := (p : Int)) (by omega)
    exact ⟨by rw [List.length_set]; omega, by omega, by rw [List.length_set]; omega, .inl ⟨by decide, by decide⟩, ⟨by decide, by decide, by omega⟩, by omega, ⟨by decide, by decide⟩, hb.1⟩
  · unfold m_law_next
    by_cases c : 0 < nth s 2
    · rw [if_pos (decide_eq_true c)]
      exact ⟨md _, by show (s.set 2 _).length = 3; rw [List.length_set]; exact hl, by
        show 0 ≤ nth (s.set 2 _) 1
        rw [nth_set (by omega), if_neg (by decide)]; exact h1, by
        show nth (s.set 2 _) 1 ≤ _
        rw [nth_set (by omega), if_neg (by decide)]; omega⟩
    · rw [if_neg (by rw [decide_eq_true_eq]; exact c)]
      exact ⟨md _, by show (s.set 1 _).length = 3; rw [List.length_set]; exact hl, by
        show 0 ≤ nth (s.set 1 _) 1
        rw [t1]; omega, by
        show nth (s.set 1 _) 1 ≤ _
        rw [t1]; omega⟩
theorem ground_ok {N n : Nat} {s : List Int} (h : SrcB N s) (hN : N ≤ 1000000) (hn : n ≤ 10) : ok_law_drawn_ground s n ∧ Gnd (m_law_drawn_ground s n).1 ∧ (m_law_drawn_ground s n).1.length = n ∧ SrcB (N + n) (m_law_drawn_ground s n).2 := by
  have hf := fold_inv0 (ok := fun s1 x2 => sk_law_drawn_ground_4 s1 x2) (f := fun s1 x2 => st_law_drawn_ground_3 s1 x2) (fun i st => SrcB (N + i) st.2.1 ∧ st.2.2.length = i ∧ -1 ≤ st.1 ∧ st.1 ≤ 14 * (i : Int) - 1 ∧ st.2.2.Pairwise (· < ·) ∧ ∀ x, x ∈ st.2.2 → (x : Int) ≤ st.1) (List.range n) ((-1 : Int), s, ([] : List Nat))
    ⟨h, rfl, Int.le_refl _, by show (-1 : Int) ≤ 14 * ((0 : Nat) : Int) - 1; decide, List.Pairwise.nil, fun x h => by cases h⟩ fun i x st hx q => by
      obtain ⟨e, hi⟩ := rg_get hx
      obtain ⟨q1, q2, q3, q4, q5, q6⟩ := q
      obtain ⟨n1, n2, n3⟩ := nx (b := 14) q1 (by omega) ⟨by decide, by decide⟩
      refine ⟨⟨n1, by show (0 : Int) ≤ st.1 + 1 + _; omega, by show st.2.2.length ≤ 1000000; omega⟩, n3, ?_, by show (-1 : Int) ≤ st.1 + 1 + _; omega, by show st.1 + 1 + _ ≤ _; omega, ?_, fun y hy => ?_⟩
      · show (st.2.2 ++ [_]).length = i + 1
        rw [List.length_append, q2]; rfl
      · show (st.2.2 ++ [_]).Pairwise _
        rw [List.pairwise_append]
        refine ⟨q5, List.pairwise_singleton _ _, fun a ha b hb => ?_⟩
        rw [List.mem_singleton] at hb
        subst hb
        have := q6 a ha
        omega
      · have hy : y ∈ st.2.2 ++ [(st.1 + 1 + ((m_law_next st.2.1 14).1 : Int)).toNat] := hy
        show (y : Int) ≤ st.1 + 1 + _
        rcases List.mem_append.mp hy with z | z
        · have := q6 y z; omega
        · rw [List.mem_singleton] at z; omega
  rw [List.length_range] at hf
  obtain ⟨o, q1, q2, q3, q4, q5, q6⟩ := hf
  exact ⟨⟨by omega, o⟩, ⟨q5, fun x hx => by have := q6 x hx; omega, by have e : (m_law_drawn_ground s n).1.length = n := q2; omega⟩, q2, q1⟩
/-! ### a drawn order -/
theorem nth_cons {α : Type} [Inhabited α] {x : α} {l : List α} {i : Nat} (h : i < l.length) : nth (x :: l) (i + 1) = nth l i := by
  rw [nth_get? (x := l[i]) (by rw [List.getElem?_cons_succ, List.getElem?_eq_getElem h]), nth_get? (List.getElem?_eq_getElem h)]
theorem erase_perm : ∀ {l : List Nat} {i : Nat}, i < l.length → (nth l i :: l.eraseIdx i).Perm l
  | [], i, h => absurd h (Nat.not_lt_zero _)
  | x :: l, 0, _ => by rw [show nth (x :: l) 0 = x from nth_get? rfl]; exact List.Perm.refl _
  | x :: l, i + 1, h => by
    rw [nth_cons (Nat.lt_of_succ_lt_succ h), List.eraseIdx_cons_succ]
    exact (List.Perm.swap _ _ _).trans ((erase_perm (Nat.lt_of_succ_lt_succ h)).cons x)
theorem turned_ok {N : Nat} {s : List Int} {l : List Nat} (h : SrcB N s) (hN : N ≤ 1000000) (hl : l.length ≤ 1024) : ok_law_turned s l ∧ (m_law_turned s l).1.Perm l ∧ SrcB (N + l.length) (m_law_turned s l).2 := by
  obtain ⟨a, b, c⟩ := whl_inv (okc := fun _ => True) (ok := fun s1 => sk_law_turned_3 s1) (c := fun s1 => wc_law_turned_1 s1) (f := fun s1 => st_law_turned_2 s1) (fun st => SrcB (N + st.1.length) st.2.2 ∧ (st.1 ++ st.2.1).Perm l) (fun st => st.2.1.length) (fun st i => ⟨trivial, fun e => by
    have e : (!decide (st.2.1 = ([] : List Nat))) = true := e
    rw [Bool.not_eq_true', decide_eq_false_iff_not] at e
    have pos := List.length_pos_iff.mpr e
    have le := i.2.length_eq
    rw [List.length_append] at le
    obtain ⟨n1, n2, n3⟩ := nx (b := st.2.1.length) i.1 (by omega) ⟨pos, by omega⟩
    refine ⟨⟨n1, n2, by omega, by omega⟩, ⟨?_, ?_⟩, ?_⟩
    · show SrcB (N + (st.1 ++ [_]).length) _
      rw [List.length_append]; exact n3
    · show ((st.1 ++ [_]) ++ _).Perm l
      rw [List.append_assoc]
      exact ((erase_perm n2).append_left st.1).trans i.2
    · show (st.2.1.eraseIdx _).length < _
      rw [List.length_eraseIdx, if_pos n2]; omega⟩) (fun st i e => by
    show (!decide (st.2.1 = ([] : List Nat))) = false
    rw [decide_eq_true (List.length_eq_zero_iff.mp e)]; rfl) l.length ([], l, s) ⟨h, List.Perm.refl _⟩ (Nat.le_refl _)
  have c : (!decide ((whl (fun s1 => wc_law_turned_1 s1) (fun s1 => st_law_turned_2 s1) l.length ([], l, s)).2.1 = ([] : List Nat))) = false := c
  rw [Bool.not_eq_false', decide_eq_true_eq] at c
  obtain ⟨b1, b2⟩ := b
  rw [c, List.append_nil] at b2
  have le := b2.length_eq
  rw [le] at b1
  exact ⟨a, b2, b1⟩
theorem sized_ok {n k : Nat} (hn : n ≤ 10) : ok_law_sized n k ∧ m_law_sized n k = (List.range (2 ^ n)).filter fun m => decide (card n m = k) := by
  have t10 := two10 hn
  refine ⟨⟨by omega, by rw [shl_one]; omega, by rw [List.length_range, shl_one]; omega, fun x hx => ?_⟩, ?_⟩
  · rw [List.mem_range, shl_one] at hx
    exact (count_ok hx).1
  · unfold m_law_sized
    rw [List.map_id', shl_one]
    refine List.filter_congr fun x hx => ?_
    rw [List.mem_range] at hx
    rw [(count_ok hx).2]
theorem sized_mem {n k m : Nat} (hn : n ≤ 10) : m ∈ m_law_sized n k ↔ m < 2 ^ n ∧ card n m = k := by
  rw [(sized_ok hn).2, List.mem_filter, List.mem_range, decide_eq_true_eq]
theorem sized_nd {n k : Nat} (hn : n ≤ 10) : (m_law_sized n k).Nodup := by
  rw [(sized_ok hn).2]; exact List.Pairwise.filter _ List.nodup_range
theorem sized_len {n k : Nat} (hn : n ≤ 10) : (m_law_sized n k).length ≤ 1024 := Nat.le_trans (nd_len (sized_nd hn) fun m h => ((sized_mem hn).mp h).1) (two10 hn)
theorem ex_size : ∀ (n k : Nat), k ≤ n → ∃ m, m < 2 ^ n ∧ card n m = k := fun n k h => ⟨2 ^ k - 1, by
  have := Nat.pow_le_pow_right (n := 2) (by decide) h
  have := Nat.two_pow_pos k
  omega, by
  have : ∀ d, card (k + d) (2 ^ k - 1) = k := fun d => by
    induction d with
    | zero => exact card_full k k (Nat.le_refl _)
    | succ d ih =>
      show card (k + d) (2 ^ k - 1) + _ = k
      rw [ih]
      have : (2 ^ k - 1).testBit (k + d) = false := Nat.testBit_lt_two_pow (by
        have := Nat.pow_le_pow_right (n := 2) (by decide) (show k ≤ k + d by omega)
        have := Nat.two_pow_pos k
        omega)
      simp [this]
  have := this (n - k)
  rwa [show k + (n - k) = n by omega] at this⟩
/-! ### all sets of a size but some that meet in few elements -/
theorem sub_card {n a b : Nat} (hb : b < 2 ^ n) (s : Sub a b) (e : card n a = card n b) : a = b := Classical.byContradiction fun z => by
  obtain ⟨i, h1, h2⟩ := ne_ex s z
  have := card_mono (n := n) (sub_del s h2 h1)
  have := card_del (sub_lt hb h1) h1
  omega
theorem ind_sparse {n k : Nat} {G : List Nat} (hk : 1 ≤ k) (h1 : ∀ a, a ∈ G → card n a = k) (h2 : ∀ a b, a ∈ G → b ∈ G → a ≠ b → card n (a &&& b) + 2 ≤ k) : Ind n fun m => card n m ≤ k ∧ m ∉ G where
  zero := ⟨by rw [card_zero]; omega, fun z => by have := h1 0 z; rw [card_zero] at this; omega⟩
  her a b hb s q := ⟨Nat.le_trans (card_mono s) q.1, fun z => by
    have e := h1 a z
    have := card_mono (n := n) s
    have := sub_card hb s (by have := q.1; omega)
    exact q.2 (this ▸ z)⟩
  aug a b ha hb qa qb c := by
    have qb1 := qb.1
    obtain ⟨i, hi, b1, b2⟩ := card_lt_ex c
    have ci := card_add hi b2
    by_cases z : a ||| 2 ^ i ∈ G
    · have e := h1 _ z
      have ns : ¬ Sub b (a ||| 2 ^ i) := fun s => by
        have := sub_card (Nat.or_lt_two_pow ha (Nat.pow_lt_pow_right (by decide) hi)) s (by omega)
        exact qb.2 (this ▸ z)
      have : ∃ j, b.testBit j = true ∧ (a ||| 2 ^ i).testBit j = false := Classical.byContradiction fun w => ns fun j hj => by
        cases v : (a ||| 2 ^ i).testBit j with
        | true => rfl
        | false => exact absurd ⟨j, hj, v⟩ w
      obtain ⟨j, j1, j2⟩ := this
      rw [Nat.testBit_or, Bool.or_eq_false_iff, Nat.testBit_two_pow] at j2
      have ij : i ≠ j := of_decide_eq_false j2.2
      have hj := sub_lt hb j1
      have cj := card_add hj j2.1
      refine ⟨j, hj, j1, j2.1, by omega, fun w => ?_⟩
      have ne : a ||| 2 ^ i ≠ a ||| 2 ^ j := fun v => by
        have : (a ||| 2 ^ j).testBit i = true := by rw [← v, Nat.testBit_or, Nat.testBit_two_pow, decide_eq_true rfl, Bool.or_true]
        rw [Nat.testBit_or, b2, Nat.testBit_two_pow, decide_eq_false (Ne.symm ij)] at this
        cases this
      have m := h2 _ _ z w ne
      have := card_mono (n := n) (a := a) (b := (a ||| 2 ^ i) &&& (a ||| 2 ^ j)) fun t ht => by
        rw [Nat.testBit_and, Nat.testBit_or, Nat.testBit_or, ht]; rfl
      omega
    · exact ⟨i, hi, b1, b2, by omega, z⟩
theorem bs_sparse {n k : Nat} {G bases : List Nat} (hk : 1 ≤ k) (h1 : ∀ a, a ∈ G → card n a = k) (h2 : ∀ a b, a ∈ G → b ∈ G → a ≠ b → card n (a &&& b) + 2 ≤ k) (hb : ∀ m, m ∈ bases ↔ m < 2 ^ n ∧ card n m = k ∧ m ∉ G) (ne : bases ≠ []) : Bs n (fun m => card n m ≤ k ∧ m ∉ G) k bases where
  ind := ind_sparse hk h1 h2
  mem m := by
    rw [hb]
    exact ⟨fun q => ⟨q.1, ⟨Nat.le_of_eq q.2.1, q.2.2⟩, q.2.1⟩, fun q => ⟨q.1, q.2.2, q.2.1.2⟩⟩
  top m _ q := q.1
  ne := ne
structure BsL (n : Nat) (bases : List Nat) : Prop where
  ex : ∃ F k, Bs n F k bases
  nd : bases.Nodup
theorem bs_sized {n k : Nat} (hn : n ≤ 10) (h1 : 1 ≤ k) (h2 : k ≤ n) : BsL n (m_law_sized n k) :=
  ⟨⟨_, k, bs_sparse (G := []) h1 (fun _ h => by cases h) (fun _ _ h => by cases h) (fun m => by rw [sized_mem hn]; simp) fun z => by
    obtain ⟨m, a, b⟩ := ex_size n k h2
    have := (sized_mem (k := k) hn).mpr ⟨a, b⟩
    rw [z] at this; cases this⟩, sized_nd hn⟩
end K66

/-! LV: the law's sparse bases, its bases of columns. -/
namespace K66
open PySem PySem.Spec PyProof.Rows L2 DL PL
theorem sparse_ok {N n : Nat} {s : List Int} (h : SrcB N s) (hN : N ≤ 900000) (h2 : 2 ≤ n) (hn : n ≤ 10) : ok_law_sparse s n ∧ BsL n (m_law_sparse s n).1 ∧ SrcB (N + 1100) (m_law_sparse s n).2 := by
  obtain ⟨n1, n2, n3⟩ := nx (b := n - 1) h (by omega) ⟨by omega, by omega⟩
  have hsz : 1 ≤ 1 + (m_law_next s (n - 1)).1 ∧ 1 + (m_law_next s (n - 1)).1 ≤ n := ⟨by omega, by omega⟩
  unfold ok_law_sparse m_law_sparse
  generalize hk : 1 + (m_law_next s (n - 1)).1 = k at hsz
  generalize hs1 : (m_law_next s (n - 1)).2 = s1 at n3
  unfold ok_law_sparse_7 m_law_sparse_6 ok_law_sparse_5 m_law_sparse_4 m_law_sparse_3
  rw [hs1]
  have sl := sized_len (k := k) hn
  obtain ⟨t1, t2, t3⟩ := turned_ok (l := m_law_sized n k) n3 (by omega) sl
  generalize hr : (m_law_turned s1 (m_law_sized n k)).1 = rest at t2
  generalize hs2 : (m_law_turned s1 (m_law_sized n k)).2 = s2 at t3
  obtain ⟨u1, u2, u3⟩ := nx (b := 6) t3 (by omega) ⟨by decide, by decide⟩
  have rl : rest.length ≤ 1024 := by rw [t2.length_eq]; exact sl
  have rm : ∀ m, m ∈ rest ↔ m < 2 ^ n ∧ card n m = k := fun m => by rw [t2.mem_iff, sized_mem hn]
  have rnd : rest.Nodup := t2.nodup_iff.mpr (sized_nd hn)
  have rne : rest ≠ [] := fun z => by
    obtain ⟨m, a, b⟩ := ex_size n k hsz.2
    have := (rm m).mpr ⟨a, b⟩
    rw [z] at this; cases this
  generalize (m_law_next s2 6).1 = j
  have cut : ∀ x, x ∈ cutN rest none (some j) → x ∈ rest := fun x hx => by
    unfold cutN at hx
    exact List.mem_of_mem_drop (List.mem_of_mem_take hx)
  have cl : (cutN rest none (some j)).length ≤ 1024 := by
    unfold cutN
    rw [List.length_take, List.length_drop]
    omega
  have hf := fold_inv0 (ok := fun s2 x3 => sk_law_sparse_2 k s2 x3) (f := fun s2 x3 => st_law_sparse_1 k s2 x3) (fun i G => G.length ≤ i ∧ (∀ a, a ∈ G → a ∈ rest) ∧ ∀ a b, a ∈ G → b ∈ G → a ≠ b → card n (a &&& b) + 2 ≤ k) (cutN rest none (some j)) []
    ⟨Nat.le_refl _, fun a h => (by cases h), fun a b h => (by cases h)⟩ fun i x G hx q => by
      have hi := (List.getElem?_eq_some_iff.mp hx).1
      have xr := cut x (List.mem_of_getElem? hx)
      have xl := ((rm x).mp xr).1
      obtain ⟨q1, q2, q3⟩ := q
      refine ⟨⟨by omega, fun y _ => (count_ok (and_lt xl)).1, fun _ => by omega⟩, ?_⟩
      show (fun G : List Nat => G.length ≤ i + 1 ∧ (∀ a, a ∈ G → a ∈ rest) ∧ ∀ a b, a ∈ G → b ∈ G → a ≠ b → card n (a &&& b) + 2 ≤ k) (if _ then G ++ [x] else G)
      split
      · rename_i c
        rw [decide_eq_true_eq, List.map_eq_nil_iff, List.filter_eq_nil_iff] at c
        have c : ∀ y, y ∈ G → card n (x &&& y) + 2 ≤ k := fun y hy => by
          have := c y hy
          rw [decide_eq_true_eq, (count_ok (and_lt xl)).2] at this
          omega
        refine ⟨by rw [List.length_append]; exact Nat.succ_le_succ q1, fun a ha => ?_, fun a b ha hb ne => ?_⟩
        · rcases List.mem_append.mp ha with z | z
          · exact q2 a z
          · rw [List.mem_singleton] at z; rw [z]; exact xr
        · rcases List.mem_append.mp ha with z | z <;> rcases List.mem_append.mp hb with w | w
          · exact q3 a b z w ne
          · rw [List.mem_singleton] at w; subst w; rw [Nat.and_comm]; exact c a z
          · rw [List.mem_singleton] at z; subst z; exact c b w
          · rw [List.mem_singleton] at z w; exact absurd (z.trans w.symm) ne
      · exact ⟨Nat.le_succ_of_le q1, q2, q3⟩
  obtain ⟨o, g1, g2, g3⟩ := hf
  generalize (cutN rest none (some j)).foldl (fun s2 x3 => st_law_sparse_1 k s2 x3) [] = G at g1 g2 g3 ⊢
  refine ⟨⟨by omega, n1, (sized_ok hn).1, t1, u1, o, by omega⟩, ?_, u3.mono (by omega)⟩
  have uni : BsL n rest := ⟨⟨_, k, bs_sparse (G := []) hsz.1 (fun _ h => by cases h) (fun _ _ h => by cases h) (fun m => by rw [rm]; simp) rne⟩, rnd⟩
  show BsL n (if (!decide ((rest.filter fun x8 => !decide (x8 ∈ G)).map (fun x8 => x8) = ([] : List Nat))) = true then (rest.filter fun x8 => !decide (x8 ∈ G)).map (fun x8 => x8) else rest)
  rw [List.map_id']
  split
  · rename_i c
    rw [Bool.not_eq_true', decide_eq_false_iff_not] at c
    refine ⟨⟨_, k, bs_sparse (G := G) hsz.1 (fun a ha => ((rm a).mp (g2 a ha)).2) g3 (fun m => ?_) c⟩, List.Pairwise.filter _ rnd⟩
    rw [List.mem_filter, rm, Bool.not_eq_true', decide_eq_false_iff_not, and_assoc]
  · exact uni
/-! ### the greatest of the kept ones -/
theorem bs_of {n : Nat} {F : Nat → Prop} {keep : List Nat} (I : Ind n F) (hn : n ≤ 10) (nd : keep.Nodup) (hk : ∀ m, m ∈ keep ↔ m < 2 ^ n ∧ F m) :
    (∀ m, m ∈ keep → ok_law_count m) ∧ keep.map (fun x => m_law_count x) ≠ [] ∧ BsL n (keep.filter fun x => decide (m_law_count x = maxL ltN (keep.map fun x => m_law_count x))) := by
  have ne : keep.map (fun x => m_law_count x) ≠ [] := fun z => by
    have := (hk 0).mpr ⟨Nat.two_pow_pos n, I.zero⟩
    rw [List.map_eq_nil_iff.mp z] at this; cases this
  have ct : ∀ m, m ∈ keep → m_law_count m = card n m := fun m h => (count_ok ((hk m).mp h).1).2
  obtain ⟨m1, m2⟩ := maxL_spec ne
  refine ⟨fun m h => (count_ok ((hk m).mp h).1).1, ne, ⟨F, maxL ltN (keep.map fun x => m_law_count x), I, fun m => ?_, fun m h f => ?_, fun z => ?_⟩, List.Pairwise.filter _ nd⟩
  · rw [List.mem_filter, hk, decide_eq_true_eq]
    constructor
    · rintro ⟨⟨a, b⟩, c⟩
      rw [ct m ((hk m).mpr ⟨a, b⟩)] at c
      exact ⟨a, b, c⟩
    · rintro ⟨a, b, c⟩
      rw [ct m ((hk m).mpr ⟨a, b⟩)]
      exact ⟨⟨a, b⟩, c⟩
  · have hm := (hk m).mpr ⟨h, f⟩
    rw [← ct m hm]
    exact m2 _ (List.mem_map.mpr ⟨m, hm, rfl⟩)
  · obtain ⟨m, hm, e⟩ := List.mem_map.mp m1
    have : m ∈ keep.filter fun x => decide (m_law_count x = maxL ltN (keep.map fun x => m_law_count x)) := List.mem_filter.mpr ⟨hm, decide_eq_true e⟩
    rw [z] at this; cases this
/-! ### columns -/
theorem mem_del {n x k : Nat} (hk : x.testBit k = true) : (mem n x).filter (fun i => !decide (i = k)) = mem n (x ^^^ 2 ^ k) := by
  unfold mem
  rw [List.filter_filter]
  refine List.filter_congr fun i _ => ?_
  rw [bit_del hk, Bool.and_comm]
  congr 2
  exact decide_eq_decide.mpr ⟨Eq.symm, Eq.symm⟩
theorem fre_del {n x : Nat} (col : Nat → Nat) (hx : x < 2 ^ n) (h0 : x ≠ 0) : Fre ((mem n x).map col) ↔ xs ((mem n x).map col) ≠ 0 ∧ ∀ k, k ∈ mem n x → Fre ((mem n (x ^^^ 2 ^ k)).map col) := by
  constructor
  · intro h
    refine ⟨fun e => mem_ne hx h0 (List.map_eq_nil_iff.mp (h _ (List.Sublist.refl _) e)), fun k hk => h.sub ((mem_sub (del_sub (mem_iff.mp hk).2)).map _)⟩
  · rintro ⟨h1, h2⟩ t ht e
    obtain ⟨l, hl, et⟩ := List.sublist_map_iff.mp ht
    subst et
    by_cases z : l = mem n x
    · rw [z] at e; exact absurd e h1
    · have : ∃ k, k ∈ mem n x ∧ k ∉ l := Classical.byContradiction fun w => z (hl.eq_of_length_le ((mem_nd n x).length_le_of_subset fun k hk => Classical.byContradiction fun v => w ⟨k, hk, v⟩))
      obtain ⟨k, k1, k2⟩ := this
      have s := hl.filter (fun i => !decide (i = k))
      rw [mem_del (mem_iff.mp k1).2, List.filter_eq_self.mpr fun i hi => by
        rw [Bool.not_eq_true', decide_eq_false_iff_not]
        exact fun q => k2 (q ▸ hi)] at s
      exact h2 k k1 _ (s.map _) e
theorem col_fold {cols fr : List Nat} {x : Nat} : ∀ (l : List Nat) (t : Nat) (b : Bool), (∀ k, k ∈ l → k < cols.length ∧ k ≤ 1000000) → okF (fun s5 x6 => sk_law_column_bases_5 cols x s5 x6) (fun s5 x6 => st_law_column_bases_4 cols fr x s5 x6) l (t, b) ∧
    l.foldl (fun s5 x6 => st_law_column_bases_4 cols fr x s5 x6) (t, b) = (t ^^^ xs ((l.filter (x.testBit ·)).map (nth cols)), b && (l.filter (x.testBit ·)).all fun k => decide (x ^^^ 2 ^ k ∈ fr))
  | [], t, b, _ => ⟨trivial, by show (t, b) = (t ^^^ 0, b && true); rw [Nat.xor_zero, Bool.and_true]⟩
  | k :: l, t, b, h => by
    obtain ⟨k1, k2⟩ := h k List.mem_cons_self
    have hl : ∀ k, k ∈ l → k < cols.length ∧ k ≤ 1000000 := fun k hk => h k (List.mem_cons_of_mem _ hk)
    have e : st_law_column_bases_4 cols fr x (t, b) k = if x.testBit k = true then (t ^^^ nth cols k, b && decide (x ^^^ 2 ^ k ∈ fr)) else (t, b) := by
      show (if decide ((x >>> k) &&& 1 = 1) = true then (t ^^^ nth cols k, b && decide (x ^^^ (1 <<< k) ∈ fr)) else (t, b)) = _
      rw [bit_and, shl_one]
    by_cases c : x.testBit k = true
    · rw [if_pos c] at e
      obtain ⟨i1, i2⟩ := col_fold (cols := cols) (fr := fr) (x := x) l (t ^^^ nth cols k) (b && decide (x ^^^ 2 ^ k ∈ fr)) hl
      refine ⟨⟨fun _ => ⟨k1, fun _ => k2⟩, by show okF _ _ l (st_law_column_bases_4 cols fr x (t, b) k); rw [e]; exact i1⟩, ?_⟩
      show l.foldl _ (st_law_column_bases_4 cols fr x (t, b) k) = _
      rw [e, i2, List.filter_cons, if_pos c, List.map_cons, List.all_cons, Bool.and_assoc]
      show (_, _) = (t ^^^ (nth cols k ^^^ xs _), _)
      rw [Nat.xor_assoc]
    · rw [if_neg c] at e
      obtain ⟨i1, i2⟩ := col_fold (cols := cols) (fr := fr) (x := x) l t b hl
      refine ⟨⟨fun z => by rw [bit_and] at z; exact absurd z c, by show okF _ _ l (st_law_column_bases_4 cols fr x (t, b) k); rw [e]; exact i1⟩, ?_⟩
      show l.foldl _ (st_law_column_bases_4 cols fr x (t, b) k) = _
      rw [e, i2, List.filter_cons, if_neg c]
theorem columns_ok {n : Nat} {cols : List Nat} (hn : n ≤ 10) (hc : n ≤ cols.length) : ok_law_column_bases n cols ∧ BsL n (m_law_column_bases n cols) := by
  have t10 := two10 hn
  have hp := Nat.two_pow_pos n
  have I : Ind n fun m => Fre ((mem n m).map (nth cols)) := (li_cols (nth cols)).ind n
  have hf := fold_inv0 (ok := fun s2 x3 => sk_law_column_bases_9 n cols s2 x3) (f := fun s2 x3 => st_law_column_bases_8 n cols s2 x3) (fun i s => s.length ≤ i + 1 ∧ s.Nodup ∧ ∀ m, m ∈ s ↔ m < i + 1 ∧ Fre ((mem n m).map (nth cols))) (rgN 1 (1 <<< n)) [0]
    ⟨Nat.le_refl _, List.nodup_cons.mpr ⟨List.not_mem_nil, List.nodup_nil⟩, fun m => by
      rw [List.mem_singleton]
      exact ⟨fun e => by subst e; exact ⟨Nat.zero_lt_one, I.zero⟩, fun q => by omega⟩⟩ fun i x s hx q => by
      rw [shl_one] at hx
      obtain ⟨e, hl⟩ := rgN_get hx
      have e : x = i + 1 := by omega
      have hx2 : x < 2 ^ n := by omega
      obtain ⟨q1, q2, q3⟩ := q
      obtain ⟨o1, o2⟩ := col_fold (cols := cols) (fr := s) (x := x) (List.range n) 0 true fun k hk => by
        rw [List.mem_range] at hk; exact ⟨by omega, by omega⟩
      have key : ((true && ((List.range n).filter (x.testBit ·)).all fun k => decide (x ^^^ 2 ^ k ∈ s)) && !decide (0 ^^^ xs (((List.range n).filter (x.testBit ·)).map (nth cols)) = 0)) = true ↔ Fre ((mem n x).map (nth cols)) := by
        show ((true && (mem n x).all fun k => decide (x ^^^ 2 ^ k ∈ s)) && !decide (0 ^^^ xs ((mem n x).map (nth cols)) = 0)) = true ↔ _
        rw [fre_del _ hx2 (by omega), Bool.true_and, Nat.zero_xor, Bool.and_eq_true, List.all_eq_true, Bool.not_eq_true', decide_eq_false_iff_not, and_comm]
        refine and_congr_right fun _ => forall_congr' fun k => forall_congr' fun hk => ?_
        rw [decide_eq_true_eq, q3]
        exact and_iff_right (by have := del_lt (mem_iff.mp hk).2; omega)
      refine ⟨⟨by omega, o1, ?_⟩, ?_⟩
      · show ok_law_column_bases_7 s ((List.range n).foldl (fun s5 x6 => st_law_column_bases_4 cols s x s5 x6) (0, true))
        exact fun _ => by omega
      · show (fun s : List Nat => s.length ≤ i + 1 + 1 ∧ s.Nodup ∧ ∀ m, m ∈ s ↔ m < i + 1 + 1 ∧ Fre ((mem n m).map (nth cols))) (m_law_column_bases_6 s x ((List.range n).foldl (fun s5 x6 => st_law_column_bases_4 cols s x s5 x6) (0, true)))
        rw [o2]
        unfold m_law_column_bases_6
        have nx : x ∉ s := fun z => by have := ((q3 x).mp z).1; omega
        split
        · rename_i c
          have f := key.mp c
          refine ⟨by rw [List.length_append]; exact Nat.succ_le_succ q1, ?_, fun m => ?_⟩
          · rw [List.nodup_append]
            refine ⟨q2, List.nodup_cons.mpr ⟨List.not_mem_nil, List.nodup_nil⟩, fun a ha b hb => ?_⟩
            rw [List.mem_singleton] at hb
            exact fun z => nx (hb ▸ z ▸ ha)
          · rw [List.mem_append, q3, List.mem_singleton]
            constructor
            · rintro (z | z)
              · exact ⟨by omega, z.2⟩
              · rw [z]; exact ⟨by omega, f⟩
            · rintro ⟨a, b⟩
              by_cases z : m = x
              · exact .inr z
              · exact .inl ⟨by omega, b⟩
        · rename_i c
          refine ⟨Nat.le_succ_of_le q1, q2, fun m => ?_⟩
          rw [q3]
          constructor
          · rintro ⟨a, b⟩; exact ⟨by omega, b⟩
          · rintro ⟨a, b⟩
            refine ⟨?_, b⟩
            have : m ≠ x := fun z => c (key.mpr (z ▸ b))
            omega
  rw [rgN_len, shl_one] at hf
  obtain ⟨o, q1, q2, q3⟩ := hf
  rw [show 2 ^ n - 1 + 1 = 2 ^ n by omega] at q1 q3
  have e0 : (rgN 1 (1 <<< n)).foldl (fun s2 x3 => st_law_column_bases_8 n cols s2 x3) [0] = (rgN 1 (2 ^ n)).foldl (fun s2 x3 => st_law_column_bases_8 n cols s2 x3) [0] := by rw [shl_one]
  unfold ok_law_column_bases m_law_column_bases ok_law_column_bases_15 m_law_column_bases_14
  rw [e0]
  generalize (rgN 1 (2 ^ n)).foldl (fun s2 x3 => st_law_column_bases_8 n cols s2 x3) [0] = s at q1 q2 q3 ⊢
  obtain ⟨b1, b2, b3⟩ := bs_of I hn q2 q3
  refine ⟨⟨by omega, ⟨by decide, by rw [shl_one]; omega⟩, by rw [shl_one]; exact o, ⟨by omega, b1, b2, ⟨by omega, b1⟩⟩⟩, ?_⟩
  unfold m_law_column_bases_12 m_law_column_bases_10
  rw [List.map_id']
  exact b3
end K66

/-! LW: the law's bases of graphs, its drawn bases. -/
namespace DL
open PL
theorem lowb_bit : ∀ (x : Nat), 0 < x → ∃ k, x.testBit k = true ∧ lowb x = 2 ^ k := fun x => by
  induction x using Nat.strongRecOn with
  | _ x ih =>
    intro h
    by_cases e : x % 2 = 0
    · obtain ⟨a, b⟩ := and_pred_half x e h
      obtain ⟨k, k1, k2⟩ := ih (x / 2) (by omega) (by omega)
      refine ⟨k + 1, by rw [Nat.testBit_succ]; exact k1, ?_⟩
      unfold lowb at k2 ⊢
      rw [Nat.pow_succ, ← k2]
      have : x / 2 &&& (x / 2 - 1) ≤ x / 2 := Nat.and_le_left
      omega
    · obtain ⟨a, b⟩ := and_pred_odd x (by omega)
      refine ⟨0, by rw [Nat.testBit_zero, decide_eq_true_eq]; omega, ?_⟩
      unfold lowb
      rw [Nat.pow_zero]
      omega
theorem bits_pow (k : Nat) : bits (2 ^ k) = k + 1 := by
  unfold bits
  rw [if_neg (by have := Nat.two_pow_pos k; omega), Nat.log2_two_pow]
section
variable {α : Type} {l : List (Nat × α)} {k : Nat}
theorem dlook_none (h : dlook l k = none) : k ∉ l.map (·.1) := fun z => by
  obtain ⟨p, hp, e⟩ := List.mem_map.mp z
  unfold dlook at h
  rw [Option.map_eq_none_iff, List.find?_eq_none] at h
  exact h p hp (decide_eq_true e)
theorem dlook_some {v : α} (h : dlook l k = some v) : (k, v) ∈ l := by
  unfold dlook at h
  obtain ⟨p, hp, e⟩ := Option.map_eq_some_iff.mp h
  have h1 := List.mem_of_find?_eq_some hp
  have h2 := List.find?_some hp
  have h2 : p.1 = k := of_decide_eq_true h2
  rw [← h2, ← e]; exact h1
theorem dput_new {v : α} (h : k ∉ l.map (·.1)) : dput l k v = l ++ [(k, v)] := by
  unfold dput
  rw [if_neg]
  intro z
  rw [List.any_eq_true] at z
  obtain ⟨p, hp, e⟩ := z
  exact h (List.mem_map.mpr ⟨p, hp, of_decide_eq_true e⟩)
end
end DL
namespace PL
theorem par_congr {J J' : Nat → Nat} (l x : Nat) : ∀ k, (∀ u, u < k → J u = J' u) → par J l x k = par J' l x k
  | 0, _ => rfl
  | k + 1, h => by
    unfold par
    rw [par_congr l x k fun u hu => h u (by omega), h k (Nat.lt_succ_self k)]
theorem Lab.congr {J J' : Nat → Nat} {p : List Nat} (h : Lab J p) (e : ∀ u, u < 8 → J u = J' u) : Lab J' p := fun x hx => by
  rw [h x hx]
  exact forall_congr' fun l => by rw [par_congr l x 8 e]
theorem Lab.perm {J : Nat → Nat} {p q : List Nat} (h : Lab J p) (w : p.Perm q) : Lab J q := fun x hx => by
  rw [← h x hx]
  exact ⟨mem_spn_perm w.symm, mem_spn_perm w⟩
theorem mem_low {n x k : Nat} (hx : x < 2 ^ n) (hk : x.testBit k = true) : (mem n x).Perm (k :: mem n (x ^^^ 2 ^ k)) := by
  have := mem_add (n := n) (a := x ^^^ 2 ^ k) (i := k) (sub_lt hx hk) (by rw [bit_del hk, decide_eq_true rfl]; simp)
  rwa [del_add hk] at this
end PL
namespace K66
open PySem PySem.Spec PyProof.Rows L2 DL PL
theorem forest_ok {n : Nat} {lines : List (Nat × Nat)} (hn : n ≤ 10) (hl : n ≤ lines.length) (he : ∀ p, p ∈ lines → p.1 < 8 ∧ p.2 < 8) : ok_law_forest_bases_l n lines ∧ BsL n (m_law_forest_bases_l n lines) := by
  have t10 := two10 hn
  have hp := Nat.two_pow_pos n
  have I : Ind n fun m => Fre ((mem n m).map (ecol (nth lines))) := (li_cols (ecol (nth lines))).ind n
  have m0 : mem n 0 = [] := mem_zero n
  have hf := fold_inv0 (ok := fun s2 x3 => sk_law_forest_bases_l_6 lines s2 x3) (f := fun s2 x3 => st_law_forest_bases_l_5 lines s2 x3) (fun i s => s.length ≤ i + 1 ∧ (s.map (·.1)).Nodup ∧ (∀ m, m ∈ s.map (·.1) ↔ m < i + 1 ∧ Fre ((mem n m).map (ecol (nth lines)))) ∧ ∀ m w, (m, w) ∈ s → w.length = 12 ∧ Lab (nth w) ((mem n m).map (ecol (nth lines)))) (rgN 1 (1 <<< n)) [(0, List.range 12)]
    ⟨Nat.le_refl _, List.nodup_cons.mpr ⟨List.not_mem_nil, List.nodup_nil⟩, fun m => by
      show m ∈ [0] ↔ _
      rw [List.mem_singleton]
      exact ⟨fun e => by subst e; exact ⟨Nat.zero_lt_one, I.zero⟩, fun q => by omega⟩, fun m w h => by
      rw [List.mem_singleton] at h
      cases h
      refine ⟨List.length_range, ?_⟩
      rw [m0]
      exact lab_id.congr fun u hu => (nth_range (by omega)).symm⟩ fun i x s hx q => by
      rw [shl_one] at hx
      obtain ⟨e, hl2⟩ := rgN_get hx
      have e : x = i + 1 := by omega
      have hx2 : x < 2 ^ n := by omega
      obtain ⟨q1, q2, q3, q4⟩ := q
      obtain ⟨k, k1, k2⟩ := lowb_bit x (by omega)
      have hk := sub_lt hx2 k1
      have pm := (mem_low hx2 k1).map (ecol (nth lines))
      rw [List.map_cons] at pm
      have fx : Fre ((mem n x).map (ecol (nth lines))) ↔ Fre ((mem n (x ^^^ 2 ^ k)).map (ecol (nth lines))) ∧ ecol (nth lines) k ∉ spn ((mem n (x ^^^ 2 ^ k)).map (ecol (nth lines))) := by
        rw [← fre_cons]
        exact ⟨fun q => q.perm pm, fun q => q.perm pm.symm⟩
      have lt := del_lt k1
      have nx : x ∉ s.map (·.1) := fun z => by have := ((q3 x).mp z).1; omega
      have stay : ¬ Fre ((mem n x).map (ecol (nth lines))) → s.length ≤ i + 1 + 1 ∧ (s.map (·.1)).Nodup ∧ (∀ m, m ∈ s.map (·.1) ↔ m < i + 1 + 1 ∧ Fre ((mem n m).map (ecol (nth lines)))) ∧ ∀ m w, (m, w) ∈ s → w.length = 12 ∧ Lab (nth w) ((mem n m).map (ecol (nth lines))) := fun nf => by
        refine ⟨Nat.le_succ_of_le q1, q2, fun m => ?_, q4⟩
        rw [q3]
        constructor
        · rintro ⟨a, b⟩; exact ⟨by omega, b⟩
        · rintro ⟨a, b⟩
          refine ⟨?_, b⟩
          have : m ≠ x := fun z => nf (z ▸ b)
          omega
      have el := he _ (nth_mem (l := lines) (i := k) (by omega))
      show ok_law_forest_bases_l_4 lines s x (dlook s (x ^^^ lowb x)) ∧ (fun s : List (Nat × List Nat) => s.length ≤ i + 1 + 1 ∧ (s.map (·.1)).Nodup ∧ (∀ m, m ∈ s.map (·.1) ↔ m < i + 1 + 1 ∧ Fre ((mem n m).map (ecol (nth lines)))) ∧ ∀ m w, (m, w) ∈ s → w.length = 12 ∧ Lab (nth w) ((mem n m).map (ecol (nth lines)))) (m_law_forest_bases_l_3 lines s x (dlook s (x ^^^ lowb x)))
      unfold ok_law_forest_bases_l_4 m_law_forest_bases_l_3
      rw [k2, bits_pow, Nat.add_sub_cancel]
      cases hd : dlook s (x ^^^ 2 ^ k) with
      | none =>
        refine ⟨fun z => (by cases z), ?_⟩
        refine stay fun f => dlook_none hd ((q3 _).mpr ⟨by omega, (fx.mp f).1⟩)
      | some w =>
        have hm := dlook_some hd
        obtain ⟨w1, w2⟩ := q4 _ _ hm
        have fr := ((q3 _).mp (List.mem_map.mpr ⟨_, hm, rfl⟩)).2
        have le := lab_eq w2 el.1 el.2
        refine ⟨fun _ => ⟨by omega, by omega, by show _ < w.length; omega, by show _ < w.length; omega, fun _ => ⟨by show w.length ≤ _; omega, by omega⟩⟩, ?_⟩
        show (fun s : List (Nat × List Nat) => s.length ≤ i + 1 + 1 ∧ (s.map (·.1)).Nodup ∧ (∀ m, m ∈ s.map (·.1) ↔ m < i + 1 + 1 ∧ Fre ((mem n m).map (ecol (nth lines)))) ∧ ∀ m w, (m, w) ∈ s → w.length = 12 ∧ Lab (nth w) ((mem n m).map (ecol (nth lines)))) (if (!decide (nth w (nth lines k).1 = nth w (nth lines k).2)) = true then dput s x (w.map fun x9 => if decide (x9 = nth w (nth lines k).2) = true then nth w (nth lines k).1 else x9) else s)
        by_cases c : nth w (nth lines k).1 = nth w (nth lines k).2
        · rw [decide_eq_true c, if_neg (by decide)]
          exact stay fun f => (fx.mp f).2 (le.mp c)
        · rw [decide_eq_false c, if_pos (show (!false) = true from rfl), dput_new nx]
          have f := fx.mpr ⟨fr, fun z => c (le.mpr z)⟩
          refine ⟨by rw [List.length_append]; exact Nat.succ_le_succ q1, ?_, fun m => ?_, fun m v hv => ?_⟩
          · rw [List.map_append, List.nodup_append]
            refine ⟨q2, List.nodup_cons.mpr ⟨List.not_mem_nil, List.nodup_nil⟩, fun a ha b hb => ?_⟩
            have hb : b = x := List.mem_singleton.mp hb
            exact fun z => nx ((z.trans hb) ▸ ha)
          · rw [List.map_append, List.mem_append, q3]
            show _ ∨ m ∈ [x] ↔ _
            rw [List.mem_singleton]
            constructor
            · rintro (z | z)
              · exact ⟨by omega, z.2⟩
              · rw [z]; exact ⟨by omega, f⟩
            · rintro ⟨a, b⟩
              by_cases z : m = x
              · exact .inr z
              · exact .inl ⟨by omega, b⟩
          · rcases List.mem_append.mp hv with z | z
            · exact q4 m v z
            · rw [List.mem_singleton] at z
              cases z
              refine ⟨by rw [List.length_map]; exact w1, ?_⟩
              refine ((lab_join w2 el.1 el.2 c).perm pm.symm).congr fun u hu => ?_
              rw [nth_map (by omega)]
              by_cases y : nth w u = nth w (nth lines k).2
              · rw [if_pos y, if_pos (decide_eq_true y)]
              · rw [if_neg y, if_neg (by rw [decide_eq_true_eq]; exact y)]
  rw [rgN_len, shl_one] at hf
  obtain ⟨o, q1, q2, q3, q4⟩ := hf
  rw [show 2 ^ n - 1 + 1 = 2 ^ n by omega] at q1 q3
  have e0 : (rgN 1 (1 <<< n)).foldl (fun s2 x3 => st_law_forest_bases_l_5 lines s2 x3) [(0, List.range 12)] = (rgN 1 (2 ^ n)).foldl (fun s2 x3 => st_law_forest_bases_l_5 lines s2 x3) [(0, List.range 12)] := by rw [shl_one]
  unfold ok_law_forest_bases_l m_law_forest_bases_l ok_law_forest_bases_l_12 m_law_forest_bases_l_11
  rw [e0]
  generalize (rgN 1 (2 ^ n)).foldl (fun s2 x3 => st_law_forest_bases_l_5 lines s2 x3) [(0, List.range 12)] = s at q1 q2 q3 ⊢
  obtain ⟨b1, b2, b3⟩ := bs_of I hn q2 q3
  have sl : (s.map (·.1)).length ≤ 1000000 := by rw [List.length_map]; omega
  refine ⟨⟨by decide, ⟨by omega, ⟨by decide, by rw [shl_one]; omega⟩, by rw [shl_one]; exact o, ⟨sl, b1, b2, ⟨sl, b1⟩⟩⟩⟩, ?_⟩
  unfold m_law_forest_bases_l_9 m_law_forest_bases_l_7
  rw [List.map_id']
  exact b3
theorem forest_t : m_law_forest_bases_t = m_law_forest_bases_l := rfl
theorem forest_ok_t {n : Nat} {lines : List (Nat × Nat)} (h : ok_law_forest_bases_l n lines) : ok_law_forest_bases_t n lines := h
end K66

/-! LX: drawn lines, drawn bases, whole bases. -/
namespace K66
open PySem PySem.Spec PyProof.Rows L2 DL PL
def Ln (p : Nat × Nat) : Prop := p.1 < 8 ∧ p.2 < 8
theorem lines_ok {N n : Nat} {s : List Int} (h : SrcB N s) (hN : N ≤ 900000) (h1 : 1 ≤ n) (hn : n ≤ 10) : ok_law_drawn_lines s n ∧ (m_law_drawn_lines s n).1.length = n ∧ (∀ p, p ∈ (m_law_drawn_lines s n).1 → Ln p) ∧ SrcB (N + 100) (m_law_drawn_lines s n).2 := by
  obtain ⟨a1, a2, a3⟩ := nx (b := 3) h (by omega) ⟨by decide, by decide⟩
  obtain ⟨b1, b2, b3⟩ := nx (b := 2) a3 (by omega) ⟨by decide, by decide⟩
  have hk : 2 ≤ 2 + (m_law_next s 3).1 ∧ 2 + (m_law_next s 3).1 ≤ 4 := ⟨by omega, by omega⟩
  unfold ok_law_drawn_lines m_law_drawn_lines
  generalize 2 + (m_law_next s 3).1 = k at hk
  unfold ok_law_drawn_lines_15 m_law_drawn_lines_14 ok_law_drawn_lines_7 m_law_drawn_lines_6 ok_law_drawn_lines_13 m_law_drawn_lines_12
  generalize hs2 : (m_law_next (m_law_next s 3).2 2).2 = s2 at b3
  have hf := fold_inv0 (ok := fun s4 x5 => sk_law_drawn_lines_4 k s4 x5) (f := fun s4 x5 => st_law_drawn_lines_3 k s4 x5) (fun i st => SrcB (N + 1 + 1 + 2 * i) st.1 ∧ st.2.length = i ∧ ∀ p, p ∈ st.2 → Ln p) (List.range n) (s2, [])
    ⟨b3, rfl, fun p hp => (by cases hp)⟩ fun i x st hx q => by
      obtain ⟨e, hi⟩ := rg_get hx
      obtain ⟨q1, q2, q3⟩ := q
      obtain ⟨c1, c2, c3⟩ := nx (b := k + 1) q1 (by omega) ⟨by omega, by omega⟩
      obtain ⟨d1, d2, d3⟩ := nx (b := k) c3 (by omega) ⟨by omega, by omega⟩
      refine ⟨⟨c1, d1, by omega, by omega⟩, d3, ?_, fun p hp => ?_⟩
      · show (st.2 ++ [_]).length = _
        rw [List.length_append, q2]; rfl
      · have hp : p ∈ st.2 ++ [((m_law_next st.1 (k + 1)).1, ((m_law_next st.1 (k + 1)).1 + 1 + (m_law_next (m_law_next st.1 (k + 1)).2 k).1) % (k + 1))] := hp
        rcases List.mem_append.mp hp with z | z
        · exact q3 p z
        · rw [List.mem_singleton] at z
          subst z
          have := Nat.mod_lt ((m_law_next st.1 (k + 1)).1 + 1 + (m_law_next (m_law_next st.1 (k + 1)).2 k).1) (show k + 1 > 0 by omega)
          exact ⟨by show _ < 8; omega, by show _ < 8; omega⟩
  rw [List.length_range] at hf
  obtain ⟨o, f1, f2, f3⟩ := hf
  obtain ⟨w1, w2, w3⟩ := whl_inv (okc := fun _ => True) (ok := fun s10 => sk_law_drawn_lines_10 k s10) (c := fun s10 => wc_law_drawn_lines_8 n s10) (f := fun s10 => st_law_drawn_lines_9 k s10) (fun st => SrcB (N + 1 + 1 + 2 * st.1.length) st.2 ∧ 1 ≤ st.1.length ∧ st.1.length ≤ n ∧ ∀ p, p ∈ st.1 → Ln p) (fun st => n - st.1.length) (fun st i => ⟨trivial, fun e => by
    have e : st.1.length < n := of_decide_eq_true e
    obtain ⟨q1, q2, q3, q4⟩ := i
    obtain ⟨c1, c2, c3⟩ := nx (b := 2) q1 (by omega) ⟨by decide, by decide⟩
    obtain ⟨d1, d2, d3⟩ := nx (b := st.1.length) c3 (by omega) ⟨by omega, by omega⟩
    obtain ⟨e1, e2, e3⟩ := nx (b := k + 1) c3 (by omega) ⟨by omega, by omega⟩
    refine ⟨⟨c1, fun _ => ⟨d1, d2⟩, fun _ => e1, by omega⟩, ⟨?_, ?_, ?_, fun p hp => ?_⟩, ?_⟩
    · show SrcB (N + 1 + 1 + 2 * (st.1 ++ [_]).length) (if _ then _ else _)
      rw [List.length_append]
      split
      · exact d3
      · exact e3
    · show 1 ≤ (st.1 ++ [_]).length
      rw [List.length_append]; omega
    · show (st.1 ++ [_]).length ≤ n
      rw [List.length_append]; exact e
    · have hp : p ∈ st.1 ++ [if decide ((m_law_next st.2 2).1 = 0) = true then (m_law_pick (m_law_next st.2 2).2 st.1).1 else (0, (m_law_next (m_law_next st.2 2).2 (k + 1)).1)] := hp
      rcases List.mem_append.mp hp with z | z
      · exact q4 p z
      · rw [List.mem_singleton] at z
        rw [z]
        split
        · exact q4 _ (nth_mem d2)
        · exact ⟨by show 0 < 8; decide, by show _ < 8; omega⟩
    · show n - (st.1 ++ [_]).length < n - st.1.length
      rw [List.length_append]
      show n - (st.1.length + 1) < _
      omega⟩) (fun st i e => decide_eq_false (by have := i.2.2.1; omega)) n ((List.range (min n (k + 1))).map fun x8 => (x8, (x8 + 1) % (k + 1)), s2)
    ⟨b3.mono (by omega), by show 1 ≤ (List.map _ _).length; rw [List.length_map, List.length_range]; omega, by show (List.map _ _).length ≤ n; rw [List.length_map, List.length_range]; omega, fun p hp => by
      obtain ⟨x, hx, e⟩ := List.mem_map.mp hp
      rw [List.mem_range] at hx
      subst e
      have := Nat.mod_lt (x + 1) (show k + 1 > 0 by omega)
      exact ⟨by show x < 8; omega, by show (x + 1) % (k + 1) < 8; omega⟩⟩ (by show n - _ ≤ n; omega)
  refine ⟨⟨a1, b1, fun _ => ⟨by omega, o⟩, fun _ => ⟨by omega, by rw [List.length_range]; omega, fun _ _ => by omega, w1⟩⟩, ?_⟩
  split
  · exact ⟨f2, f3, f1.mono (by omega)⟩
  · obtain ⟨v1, v2, v3, v4⟩ := w2
    have w3 : ¬ (whl (fun s10 => wc_law_drawn_lines_8 n s10) (fun s10 => st_law_drawn_lines_9 k s10) n ((List.range (min n (k + 1))).map fun x8 => (x8, (x8 + 1) % (k + 1)), s2)).1.length < n := of_decide_eq_false w3
    exact ⟨Nat.le_antisymm v3 (Nat.le_of_not_lt w3), v4, v1.mono (by omega)⟩
theorem bases_ok {N n : Nat} {s : List Int} (h : SrcB N s) (hN : N ≤ 800000) (h2 : 2 ≤ n) (hn : n ≤ 10) : ok_law_drawn_bases s n ∧ BsL n (m_law_drawn_bases s n).1 ∧ SrcB (N + 1101) (m_law_drawn_bases s n).2 := by
  obtain ⟨a1, a2, a3⟩ := nx (b := 4) h (by omega) ⟨by decide, by decide⟩
  obtain ⟨b1, b2, b3⟩ := sparse_ok a3 (by omega) h2 hn
  obtain ⟨c1, c2, c3, c4⟩ := lines_ok a3 (by omega) (show 1 ≤ n by omega) hn
  obtain ⟨d1, d2⟩ := forest_ok hn (show n ≤ (m_law_drawn_lines (m_law_next s 4).2 n).1.length by omega) c3
  obtain ⟨e1, e2, e3⟩ := lcS_inv (okk := fun z5 x4 => ok_law_next z5 8) (q := fun z5 x4 => true) (s1 := fun z5 x4 => z5) (f := fun z5 x4 => (m_law_next z5 8).1) (s2 := fun z5 x4 => (m_law_next z5 8).2) (fun i z => SrcB (N + 1 + i) z) (fun _ => True) (List.range n) (m_law_next s 4).2 0 a3 fun i x z _ hi q => by
    rw [List.length_range] at hi
    obtain ⟨u1, u2, u3⟩ := nx (b := 8) q (by omega) ⟨by decide, by decide⟩
    exact ⟨u1, fun _ => ⟨trivial, u3⟩, fun z => by cases z⟩
  have el := lcS_all (s1 := fun z5 x4 => z5) (f := fun z5 x4 => (m_law_next z5 8).1) (s2 := fun z5 x4 => (m_law_next z5 8).2) (List.range n) (m_law_next s 4).2
  rw [List.length_range] at el e3
  obtain ⟨g1, g2⟩ := columns_ok hn (Nat.le_of_eq el.symm)
  refine ⟨⟨a1, fun _ => b1, fun _ => ⟨fun _ => ⟨by omega, by rw [List.length_range]; omega, e1, g1⟩, fun _ => ⟨c1, d1⟩⟩⟩, ?_⟩
  unfold m_law_drawn_bases m_law_drawn_bases_1
  split
  · exact ⟨b2, b3.mono (by omega)⟩
  · split
    · exact ⟨g2, e3.mono (by omega)⟩
    · exact ⟨d2, c4.mono (by omega)⟩
theorem loop_any {S R α : Type} {ok : S → α → Prop} {f : S → α → Ct S R} (Inv : Nat → S → Prop) (Pr : R → Prop) : ∀ (l : List α) (s0 : S) (j : Nat), Inv j s0 → (∀ i x s, x ∈ l → i < j + l.length → Inv i s → ok s x ∧ ((∃ s2, f s x = .go s2 ∧ Inv (i + 1) s2) ∨ ∃ r, f s x = .rt r ∧ Pr r)) →
    okC ok f l s0 ∧ ((∃ s2, loopC f l s0 = .go s2 ∧ Inv (j + l.length) s2) ∨ ∃ r, loopC f l s0 = .rt r ∧ Pr r)
  | [], s0, j, h0, _ => ⟨trivial, .inl ⟨s0, rfl, h0⟩⟩
  | x :: l, s0, j, h0, hs => by
    obtain ⟨o, h⟩ := hs j x s0 List.mem_cons_self (by simp) h0
    rcases h with ⟨s2, e, i⟩ | ⟨r, e, p⟩
    · obtain ⟨h1, h2⟩ := loop_any (ok := ok) (f := f) Inv Pr l s2 (j + 1) i fun i y s hy hi q => hs i y s (List.mem_cons_of_mem _ hy) (by rw [List.length_cons]; omega) q
      refine ⟨⟨o, fun s4 e4 => by rw [e] at e4; cases e4; exact h1⟩, ?_⟩
      rw [loopC_go e]
      rwa [show j + 1 + l.length = j + (x :: l).length by rw [List.length_cons]; omega] at h2
    · exact ⟨⟨o, fun s4 e4 => by rw [e] at e4; cases e4⟩, .inr ⟨r, loopC_rt e, p⟩⟩
theorem BsL.len {n : Nat} {b : List Nat} (h : BsL n b) (hn : n ≤ 10) : b.length ≤ 1024 := by
  obtain ⟨F, k, q⟩ := h.ex
  exact Bs.len q h.nd hn
theorem BsL.ranks {n : Nat} {b : List Nat} (h : BsL n b) (hn : n ≤ 10) : ok_law_ranks n b ∧ Good n (m_law_ranks n b) := by
  obtain ⟨F, k, q⟩ := h.ex
  obtain ⟨a, c, _⟩ := ranks_good hn q (by have := BsL.len h hn; omega)
  exact ⟨a, c⟩
theorem whole_sized {n : Nat} (h2 : 2 ≤ n) (hn : n ≤ 10) : Whole n (m_law_ranks n (m_law_sized n (n - 1))) := by
  intro m h0 h1
  have hm : m < 2 ^ n := by omega
  have bs := bs_sparse (n := n) (k := n - 1) (G := []) (bases := m_law_sized n (n - 1)) (by omega) (fun _ h => (by cases h)) (fun _ _ h => (by cases h)) (fun m => by rw [sized_mem hn]; simp) fun z => by
    obtain ⟨m, a, b⟩ := ex_size n (n - 1) (by omega)
    have := (sized_mem (k := n - 1) hn).mpr ⟨a, b⟩
    rw [z] at this; cases this
  obtain ⟨_, r2, r3, r4⟩ := ranks_good hn bs (by have := sized_len (n := n) (k := n - 1) hn; omega)
  have nz : (2 ^ n - 1) ^^^ m ≠ 0 := fun z => by
    have := compl2 (n := n) (m := m)
    rw [z, Nat.xor_zero] at this
    omega
  have cc := card_compl hm
  have p1 := card_pos (n := n) h0 hm
  have p2 := card_pos (n := n) (show 0 < (2 ^ n - 1) ^^^ m by omega) (compl_lt hm)
  have e1 := r4.isR.yes m hm ⟨by omega, List.not_mem_nil⟩
  have e2 := r4.isR.yes _ (compl_lt hm) ⟨by omega, List.not_mem_nil⟩
  have e3 : nth (m_law_ranks n (m_law_sized n (n - 1))) (2 ^ n - 1) = n - 1 := by
    obtain ⟨b, a1, a2⟩ := ex_size n (n - 1) (by omega)
    have q := (r3 b).mp ((sized_mem hn).mpr ⟨a1, a2⟩)
    rw [← las_eq r2.len, ← q.2.2, a2]
  unfold lk
  rw [e1, e2, e3]
  omega
theorem whole_ok {N n : Nat} {s : List Int} (h : SrcB N s) (hN : N ≤ 700000) (h2 : 2 ≤ n) (hn : n ≤ 10) : ok_law_whole_bases s n ∧ BsL n (m_law_whole_bases s n).1 ∧ Whole n (m_law_ranks n (m_law_whole_bases s n).1) ∧ SrcB (N + 4000) (m_law_whole_bases s n).2 := by
  obtain ⟨a, b⟩ := loop_any (ok := fun s1 x2 => sk_law_whole_bases_4 n s1 x2) (f := fun s1 x2 => st_law_whole_bases_3 n s1 x2) (fun i z => SrcB (N + 1101 * i) z) (fun r => BsL n r.1 ∧ Whole n (m_law_ranks n r.1) ∧ SrcB (N + 4000) r.2) (List.range 3) s 0 h fun i x z _ hi q => by
    rw [List.length_range] at hi
    obtain ⟨b1, b2, b3⟩ := bases_ok q (by omega) h2 hn
    obtain ⟨c1, c2⟩ := b2.ranks hn
    refine ⟨⟨b1, c1, (law_parts_ok hn c2.len).1⟩, ?_⟩
    have e : st_law_whole_bases_3 n z x = if decide ((m_law_part_masks (m_law_ranks n (m_law_drawn_bases z n).1)).length = 1) = true then .rt ((m_law_drawn_bases z n).1, (m_law_drawn_bases z n).2) else .go (m_law_drawn_bases z n).2 := rfl
    by_cases c : (m_law_part_masks (m_law_ranks n (m_law_drawn_bases z n).1)).length = 1
    · rw [if_pos (decide_eq_true c)] at e
      exact .inr ⟨_, e, b2, whole_of hn c2.len c, b3.mono (by omega)⟩
    · rw [if_neg (by rw [decide_eq_true_eq]; exact c)] at e
      exact .inl ⟨_, e, b3.mono (by omega)⟩
  rw [List.length_range] at b
  refine ⟨⟨by decide, a, fun _ _ => ⟨by omega, (sized_ok hn).1⟩⟩, ?_⟩
  unfold m_law_whole_bases
  rcases b with ⟨s2, e, i⟩ | ⟨r, e, p⟩
  · rw [e]
    exact ⟨bs_sized hn (by omega) (by omega), whole_sized h2 hn, i.mono (by omega)⟩
  · rw [e]; exact p
end K66

/-! LY: the law answers True. -/
namespace K66
open PySem PySem.Spec PyProof.Rows L2 DL PL
theorem rp_tt {L : List (List Nat)} (h : ∀ l, l ∈ L → (∀ x, x ∈ l → x < 256) ∧ l.length ≤ 10) (hl : L.length ≤ 1024) : RpOk (D.py (eTup (eTup eN) L)) := by
  have e : D.py (eTup (eTup eN) L) = .tuple (L.map fun l => D.py (eTup eN l)) := by
    show PyData.tuple (D.pyL (L.map (eTup eN))) = _
    rw [D.pyL_map, List.map_map]; rfl
  have lay : PyData.layable0 (D.py (eTup (eTup eN) L)) = true := by
    unfold PyData.layable0
    rw [canLay_py (DatE.pure (DatE.tup (DatE.tup (DatE.of Dat.nat))) L), decide_eq_true (Nat.le_trans (DatE.dep (DatE.tup (DatE.tup (DatE.of Dat.nat))) L) (by decide))]
    refine decide_eq_true ?_
    rw [e]
    have : ∀ L : List (List Nat), (∀ l, l ∈ L → (∀ x, x ∈ l → x < 256) ∧ l.length ≤ 10) → PyData.weightAll (L.map fun l => D.py (eTup eN l)) ≤ 101 * L.length := by
      intro L
      induction L with
      | nil => intro _; exact Nat.le_refl _
      | cons l L ih =>
        intro h
        have h1 := h l List.mem_cons_self
        have h2 := ih fun y hy => h y (List.mem_cons_of_mem _ hy)
        have h3 : PyData.weight (D.py (eTup eN l)) ≤ 100 := by
          show PyData.weightAll (D.pyL (l.map eN)) ≤ _
          rw [D.pyL_map, List.map_map]
          exact Nat.le_trans (weight_nats h1.1) (by omega)
        show PyData.weight (D.py (eTup eN l)) + 1 + PyData.weightAll (L.map fun l => D.py (eTup eN l)) ≤ 101 * (L.length + 1)
        omega
    exact Nat.le_trans (this L h) (by omega)
  have each : ∀ d, d ∈ (L.map fun l => D.py (eTup eN l)) → PyData.showable d = true ∧ PyData.intsShort 13 d = true := fun d hd => by
    obtain ⟨l, hl, e⟩ := List.mem_map.mp hd
    subst e
    rw [py_tup]
    exact ⟨show_nats (h l hl).1, short_nats (h l hl).1⟩
  have sh : ∀ ds : List PyData, (∀ d, d ∈ ds → PyData.showable d = true) → PyData.showableAll ds = true := by
    intro ds
    induction ds with
    | nil => intro _; rfl
    | cons d ds ih =>
      intro h
      show (PyData.showable d && PyData.showableAll ds) = true
      rw [h d List.mem_cons_self, ih fun y hy => h y (List.mem_cons_of_mem _ hy)]; rfl
  refine ⟨lay, ?_, PyData.shown_fits_of_layable0 (B := 13) (by decide) (by decide) lay ?_⟩
  · rw [e]; exact sh _ fun d hd => (each d hd).1
  · rw [e]; exact intsShortAll_of fun d hd => (each d hd).2
/-- what is told -/
def toldS (g s : List Nat) : List (List Nat) := srtL (lexL ltN) ((m_law_good_masks g.length s).map (stF g))
theorem told_rp {g s : List Nat} (hg : Gnd g) (h2 : 2 ≤ g.length) (hs : s.length = 2 ^ g.length) : RpOk (D.py (eTup (eTup eN) (toldS g s))) := by
  obtain ⟨_, _, _, a4, a5⟩ := good_ok (b := []) rfl h2 hg.len hs
  refine rp_tt (fun l hl => ?_) ?_
  · unfold toldS at hl
    rw [srt_mem, List.mem_map] at hl
    obtain ⟨m, _, e⟩ := hl
    subst e
    refine ⟨fun x hx => ?_, by rw [st_len]; exact Nat.le_trans (card_le_n _ _) hg.len⟩
    have := hg.le x (st_sub hx)
    omega
  · unfold toldS
    rw [srt_len, List.length_map]
    omega
theorem turn_ok {g bases : List Nat} (hg : Gnd g) (h2 : 2 ≤ g.length) (hb : BsL g.length bases) (hw : Whole g.length (m_law_ranks g.length bases)) (s7 : List Int) :
    ok_law_4 g.length g bases ∧ m_law_3 g.length g s7 bases = .go (m_law_whole_bases s7 g.length).2 := by
  have hn := hg.len
  obtain ⟨F, k, q⟩ := hb.ex
  obtain ⟨g1, g2⟩ := given_ok hg q hb.nd
  obtain ⟨r1, r2⟩ := hb.ranks hn
  unfold ok_law_4 m_law_3 ok_law_2 m_law_1
  rw [g2]
  generalize m_law_ranks g.length bases = s at *
  have rk := r2.rk
  unfold mkMat
  obtain ⟨t1, t2, t3, t4⟩ := told_ok (b := srtL (lexL ltN) (baseL g s)) rfl h2 hn rk hw
  obtain ⟨d1, b', d2⟩ := dual_eq (g := g) hn rk (srtL (lexL ltN) (baseL g s))
  obtain ⟨u1, u2, _, _⟩ := told_ok (g := g) (b := b') rfl h2 hn (dual_rk rk).1 (hw.dual rk)
  have gd := good_dual (g := g) (b := srtL (lexL ltN) (baseL g s)) (b' := b') rfl h2 hn rk
  have o2 := (good_ok (g := g) (b := []) rfl h2 hn rk.len).2.1
  have rp := told_rp hg h2 rk.len
  unfold toldS at rp
  have same : m_good_splits_of (m_dual ⟨g, srtL (lexL ltN) (baseL g s), s, 2 ^ g.length - 1⟩) = srtL (lexL ltN) ((m_law_good_masks g.length s).map (stF g)) := by
    rw [d2, ← t2]
    show m_sets_from g (m_pc_good_masks _) = m_sets_from g (m_pc_good_masks _)
    rw [gd]
  rw [same, t2, t4, decide_eq_true rfl, decide_eq_true rfl]
  exact ⟨⟨g1, r1, t1, rp, o2, t3, rp, fun _ => ⟨d1, by rw [d2]; exact u1⟩⟩, rfl⟩
theorem srt_id {l : List (List Nat)} (h : l.Pairwise fun a b => lexL ltN a b = true) : srtL (lexL ltN) l = l :=
  strict_eq so_st _ _ (srt_strict so_st (h.imp fun {a b} q e => by subst e; rw [so_st.irr] at q; cases q)) h fun x => srt_mem
theorem splits_ok {n : Nat} {g : List Nat} {b : List (List Nat)} {s : List Nat} (hg : g.length = n) (h2 : 2 ≤ n) (hn : n ≤ 10) (hs : RkOk n s) (hw : Whole n s) :
    ok_splits_of ⟨g, b, s, 2 ^ n - 1⟩ ∧ m_splits_of ⟨g, b, s, 2 ^ n - 1⟩ = srtL (lexL ltN) ((spl n s).map (stF g)) := by
  obtain ⟨p1, p2⟩ := pc_splits (b := b) hg h2 hn hs.len
  obtain ⟨w1, w2⟩ := pc_parts (g := g) (b := b) (by omega) hn hs hw
  have sl := spl_len (s := s) hn
  refine ⟨⟨trivial, ⟨w1, by rw [w2]; rfl⟩, p1, ?_⟩, ?_⟩
  · rw [p2]
    exact ⟨by omega, fun x _ => t_set_from (by show g.length ≤ 10; omega), by rw [List.length_map]; omega⟩
  · show srtL (lexL ltN) ((m_pc_split_masks ⟨g, b, s, 2 ^ n - 1⟩).map fun x1 => m_set_from g x1) = _
    rw [p2]
    congr 1
    exact List.map_congr_left fun x _ => set_from_eq
/-! ### by hand -/
def gR : List Nat := [0, 1, 2, 3]
def gC : List Nat := [0, 1, 2, 3, 4]
def lC : List (Nat × Nat) := [(0, 1), (1, 2), (2, 3), (0, 3), (0, 2)]
def bR : List Nat := m_law_sized 4 3
def bC : List Nat := m_law_forest_bases_l 5 lC
theorem gndR : Gnd gR := ⟨by decide, by decide, by decide⟩
theorem gndC : Gnd gC := ⟨by decide, by decide, by decide⟩
theorem hand1 : (spl 4 (m_law_ranks 4 bR)).map (stF gR) = [[0, 1], [0, 2], [0, 3]] := by kernel_rfl
theorem hand2 : (m_law_good_masks 4 (m_law_ranks 4 bR)).map (stF gR) = [] := by kernel_rfl
theorem hand3 : (spl 5 (m_law_ranks 5 bC)).map (stF gC) = [[0, 1], [0, 1, 4]] := by kernel_rfl
theorem hand4 : (m_law_good_masks 5 (m_law_ranks 5 bC)).map (stF gC) = [[0, 1], [0, 1, 4]] := by kernel_rfl
theorem hand5 : (m_law_part_masks (m_law_ranks 5 bC)).length = 1 := by kernel_rfl
theorem hand_ok : ok_law_21 () ∧ m_law_20 () = true := by
  have br : BsL 4 bR := bs_sized (by decide) (by decide) (by decide)
  obtain ⟨f1, f2⟩ := forest_ok (n := 5) (lines := lC) (by decide) (by decide) (by decide)
  have bc : BsL 5 bC := f2
  obtain ⟨Fr, kr, qr⟩ := br.ex
  obtain ⟨Fc, kc, qc⟩ := bc.ex
  obtain ⟨g1, g2⟩ := given_ok gndR qr br.nd
  obtain ⟨g3, g4⟩ := given_ok gndC qc bc.nd
  obtain ⟨_, rr⟩ := br.ranks (by decide)
  obtain ⟨_, rc⟩ := bc.ranks (by decide)
  have wr : Whole 4 (m_law_ranks 4 bR) := whole_sized (by decide) (by decide)
  have wc : Whole 5 (m_law_ranks 5 bC) := whole_of (by decide) rc.len hand5
  obtain ⟨s1, s2⟩ := splits_ok (n := 4) (g := gR) (b := srtL (lexL ltN) (baseL gR (m_law_ranks 4 bR))) rfl (by decide) (by decide) rr.rk wr
  obtain ⟨t1, t2, _, _⟩ := told_ok (n := 4) (g := gR) (b := srtL (lexL ltN) (baseL gR (m_law_ranks 4 bR))) rfl (by decide) (by decide) rr.rk wr
  obtain ⟨s3, s4⟩ := splits_ok (n := 5) (g := gC) (b := srtL (lexL ltN) (baseL gC (m_law_ranks 5 bC))) rfl (by decide) (by decide) rc.rk wc
  obtain ⟨t3, t4, _, _⟩ := told_ok (n := 5) (g := gC) (b := srtL (lexL ltN) (baseL gC (m_law_ranks 5 bC))) rfl (by decide) (by decide) rc.rk wc
  rw [hand1, srt_id (l := [[0, 1], [0, 2], [0, 3]]) (by decide)] at s2
  rw [hand2, srt_id (l := []) (by decide)] at t2
  rw [hand3, srt_id (l := [[0, 1], [0, 1, 4]]) (by decide)] at s4
  rw [hand4, srt_id (l := [[0, 1], [0, 1, 4]]) (by decide)] at t4
  have er : m_law_given gR bR = ⟨gR, srtL (lexL ltN) (baseL gR (m_law_ranks 4 bR)), m_law_ranks 4 bR, 2 ^ 4 - 1⟩ := g2
  have ec : m_law_given gC bC = ⟨gC, srtL (lexL ltN) (baseL gC (m_law_ranks 5 bC)), m_law_ranks 5 bC, 2 ^ 5 - 1⟩ := g4
  rw [← er] at s1 s2 t1 t2
  rw [← ec] at s3 s4 t3 t4
  refine ⟨⟨(sized_ok (by decide)).1, g1, f1, g3, s1, fun _ => t1, fun _ => ⟨t3, s3⟩⟩, ?_⟩
  show m_law_16 (m_law_given gR bR) (m_law_given gC bC) = true
  unfold m_law_16
  rw [s2, t2, s4, t4]
  rfl
/-! ### the law -/
theorem source_ok {l : List Int} {k : Nat} (hk : k ≤ 10) : ok_law_source l k ∧ SrcB 30 (m_law_source l k) := by
  refine ⟨⟨fun c => ?_, show 3 < 2 ^ 64 by decide⟩, ⟨rfl, ?_, ?_⟩⟩
  · rw [Bool.not_eq_true', decide_eq_false_iff_not] at c
    have := List.length_pos_iff.mpr c
    exact ⟨this, Nat.mod_lt _ this⟩
  · rw [show nth (m_law_source l k) 1 = ((3 * k : Nat) : Int) from nth_get? rfl]; omega
  · rw [show nth (m_law_source l k) 1 = ((3 * k : Nat) : Int) from nth_get? rfl]; omega
theorem law_ok {l : List Int} (h : l.length ≤ 63) : ok_law l ∧ m_law l = true := by
  obtain ⟨h1, h2⟩ := hand_ok
  have hm : max 1 (min 2 l.length) ≤ 2 := by omega
  obtain ⟨a, s3, e⟩ := loop_inv (ok := fun s1 x2 => sk_law_15 l s1 x2) (f := fun s1 x2 => st_law_14 l s1 x2) (fun _ _ => True) (List.range (max 1 (min 2 l.length))) () 0 trivial fun i x s hx _ _ => by
    rw [List.mem_range] at hx
    obtain ⟨c1, c2⟩ := source_ok (l := l) (k := x) (by omega)
    show (ok_law_source l x ∧ ok_law_13 (m_law_source l x)) ∧ ∃ s2, m_law_12 (m_law_source l x) = .go s2 ∧ True
    generalize m_law_source l x = src at c2
    obtain ⟨n1, n2, n3⟩ := nx (b := 5) c2 (by decide) ⟨by decide, by decide⟩
    unfold ok_law_13 m_law_12 ok_law_11 m_law_10
    generalize hn : 3 + (m_law_next src 5).1 = n
    obtain ⟨g1, g2, g3, g4⟩ := ground_ok (n := n) n3 (by decide) (by omega)
    generalize hg : (m_law_drawn_ground (m_law_next src 5).2 n).1 = g at g2 g3
    subst g3
    have l3 : 3 ≤ g.length ∧ g.length ≤ 7 := ⟨by omega, by omega⟩
    obtain ⟨b1, s4, b2⟩ := loop_inv (ok := fun s7 x8 => sk_law_6 g.length g s7 x8) (f := fun s7 x8 => st_law_5 g.length g s7 x8) (fun i z => SrcB (100 + 4000 * i) z) (List.range 2) (m_law_drawn_ground (m_law_next src 5).2 g.length).2 0 (g4.mono (by omega)) fun i x s7 _ hi q => by
      rw [List.length_range] at hi
      obtain ⟨w1, w2, w3, w4⟩ := whole_ok (n := g.length) q (by omega) (by omega) (by omega)
      obtain ⟨t1, t2⟩ := turn_ok g2 (by omega) w2 w3 s7
      exact ⟨⟨w1, t1⟩, _, t2, w4.mono (by omega)⟩
    refine ⟨⟨c1, n1, g1, by decide, b1⟩, (), ?_, trivial⟩
    unfold m_law_8
    rw [b2]; rfl
  refine ⟨⟨by omega, a, fun _ _ => h1⟩, ?_⟩
  unfold m_law
  rw [e]
  exact h2
end K66

namespace DL
open PySem PySem.Spec PyProof.Rows L2
theorem Fm.mono {P : Program} {w : World} {K : PySem.W.Frag} {mg : Str → Option Value} {base : Heap} {C : Addr} {m : Str} {ps : List Str} {j k : Nat} {S : FS} (F : Fm P w K mg base C m ps j S) (h : j ≤ k) : Fm P w K mg base C m ps k S := by
  obtain ⟨f, fd, F, r⟩ := F
  exact ⟨f, fd, F.mono h, r⟩
theorem Fk.mono {P : Program} {w : World} {K : PySem.W.Frag} {mg : Str → Option Value} {base : Heap} {x q : Str} {j k : Nat} {S : FS} (F : Fk P w K mg base x q j S) (h : j ≤ k) : Fk P w K mg base x q k S := by
  obtain ⟨f, fd, F, r⟩ := F
  exact ⟨f, fd, F.mono h, r⟩
end DL
namespace K66
open PySem PySem.Spec PyProof.Rows L2 DL He
theorem b_init {K : PySem.W.Frag} {f : Addr} {fd : FuncData} (F : FunD K "__init__" "Matroid.__init__" (defArgs sInit) (defBody sInit) (defScope sInit) [] [("known_ranks", .non)] f fd) : (∃ us, Vals [V.non] us ∧ Binds K fd psInit us) ∧ ∃ g, KBn K fd psInit 3 [("known_ranks" : Str)] g (fun vs zs => vs ++ zs) := by
  constructor
  · exact F.binds0 (ps := psInit) 3 (by simp) rfl fun D doc pm an cdv ct us ks h1 h2 => match us, h1, ks, h2 with
      | [_, _, _], _, [_], _ => ⟨_, _, _, _, _, _, rfl, rfl, rfl⟩
  · obtain ⟨mv, h⟩ := F.kbinds0 (ps := psInit) 3 ["known_ranks"] [] (fun us _ ws => us ++ ws) (by simp) (fun q hq => by cases hq) (fun r1 _ r3 => r1.append r3) fun D doc pm an cdv ct us mv ws h1 h2 h3 => match us, h1, mv, h2, ws, h3 with
      | [_, _, _], _, [], _, [_], _ => rfl
    exact ⟨_, h⟩
theorem join {P : Program} {w : World} {K : PySem.W.Frag} {h : Heap} {mg : Str → Option Value} (X : K.In h) (G : h.Ns mainGlobals mg) (c : SaysI HD.fa HD.fn "Matroid" K) (rm : Room 9 callerA) :
    ∃ fd : FuncData, FunD K "law" "law" (defArgs s_law) (defBody s_law) (defScope s_law) [] [] (ga K "law") fd ∧ ∀ base : Heap, FnAt callerA P w K mg base (ga K "law") fd ["script"] (spF K (FP R_law)) := by
  have cl : Cls K (ga K "Matroid") := cls_ok (c.d.fact 66 (f := .cls "Matroid") rfl)
  have mgM : mg "Matroid" = some (.ref (ga K "Matroid")) := glo_ok X G (c.d.fact 48 (f := .glo "Matroid") rfl)
  obtain ⟨fd_is_whole_in, D_is_whole_in⟩ := c.d.def_ 0 (d := HD.d_is_whole_in) rfl
  obtain ⟨fd_is_set_of_elements, D_is_set_of_elements⟩ := c.d.def_ 1 (d := HD.d_is_set_of_elements) rfl
  obtain ⟨fd_is_ground, D_is_ground⟩ := c.d.def_ 2 (d := HD.d_is_ground) rfl
  obtain ⟨fd_is_set_within, D_is_set_within⟩ := c.d.def_ 3 (d := HD.d_is_set_within) rfl
  obtain ⟨fd_are_sets_within, D_are_sets_within⟩ := c.d.def_ 4 (d := HD.d_are_sets_within) rfl
  obtain ⟨fd_ones_of, D_ones_of⟩ := c.d.def_ 5 (d := HD.d_ones_of) rfl
  obtain ⟨fd_mask_from, D_mask_from⟩ := c.d.def_ 6 (d := HD.d_mask_from) rfl
  obtain ⟨fd_set_from, D_set_from⟩ := c.d.def_ 7 (d := HD.d_set_from) rfl
  obtain ⟨fd_sets_from, D_sets_from⟩ := c.d.def_ 8 (d := HD.d_sets_from) rfl
  obtain ⟨fd_digits_in, D_digits_in⟩ := c.d.def_ 9 (d := HD.d_digits_in) rfl
  obtain ⟨fd_ranks_by_masks, D_ranks_by_masks⟩ := c.d.def_ 10 (d := HD.d_ranks_by_masks) rfl
  obtain ⟨fd_has_pair_fault, D_has_pair_fault⟩ := c.d.def_ 11 (d := HD.d_has_pair_fault) rfl
  obtain ⟨fd_bases_by_ranks, D_bases_by_ranks⟩ := c.d.def_ 12 (d := HD.d_bases_by_ranks) rfl
  obtain ⟨fd_need_ground, D_need_ground⟩ := c.d.def_ 15 (d := HD.d_need_ground) rfl
  obtain ⟨fd_checked_ranks, D_checked_ranks⟩ := c.d.def_ 13 (d := HD.d_checked_ranks) rfl
  obtain ⟨fd_need_matroid, D_need_matroid⟩ := c.d.def_ 16 (d := HD.d_need_matroid) rfl
  obtain ⟨fd_init, D_init⟩ := c.d.def_ 48 (d := HD.d_M__init) rfl
  obtain ⟨fd_matroid_by_ranks, D_matroid_by_ranks⟩ := c.d.def_ 14 (d := HD.d_matroid_by_ranks) rfl
  obtain ⟨fd_dual, D_dual⟩ := c.d.def_ 49 (d := HD.d_M__dual) rfl
  obtain ⟨fd_pc_link, D_pc_link⟩ := c.d.def_ 17 (d := HD.d_pc_link) rfl
  obtain ⟨fd_pc_lowest, D_pc_lowest⟩ := c.d.def_ 18 (d := HD.d_pc_lowest) rfl
  obtain ⟨fd_pc_part_masks, D_pc_part_masks⟩ := c.d.def_ 19 (d := HD.d_pc_part_masks) rfl
  obtain ⟨fd_pc_need_whole, D_pc_need_whole⟩ := c.d.def_ 20 (d := HD.d_pc_need_whole) rfl
  obtain ⟨fd_pc_split_masks, D_pc_split_masks⟩ := c.d.def_ 21 (d := HD.d_pc_split_masks) rfl
  obtain ⟨fd_pc_cross, D_pc_cross⟩ := c.d.def_ 22 (d := HD.d_pc_cross) rfl
  obtain ⟨fd_pc_good_masks, D_pc_good_masks⟩ := c.d.def_ 23 (d := HD.d_pc_good_masks) rfl
  obtain ⟨fd_splits_of, D_splits_of⟩ := c.d.def_ 24 (d := HD.d_splits_of) rfl
  obtain ⟨fd_good_splits_of, D_good_splits_of⟩ := c.d.def_ 25 (d := HD.d_good_splits_of) rfl
  obtain ⟨fd_law_source, D_law_source⟩ := c.d.def_ 26 (d := HD.d_law_source) rfl
  obtain ⟨fd_law_next, D_law_next⟩ := c.d.def_ 27 (d := HD.d_law_next) rfl
  obtain ⟨fd_law_pick, D_law_pick⟩ := c.d.def_ 28 (d := HD.d_law_pick) rfl
  obtain ⟨fd_law_turned, D_law_turned⟩ := c.d.def_ 29 (d := HD.d_law_turned) rfl
  obtain ⟨fd_law_count, D_law_count⟩ := c.d.def_ 30 (d := HD.d_law_count) rfl
  obtain ⟨fd_law_ranks, D_law_ranks⟩ := c.d.def_ 31 (d := HD.d_law_ranks) rfl
  obtain ⟨fd_law_sized, D_law_sized⟩ := c.d.def_ 32 (d := HD.d_law_sized) rfl
  obtain ⟨fd_law_sparse, D_law_sparse⟩ := c.d.def_ 33 (d := HD.d_law_sparse) rfl
  obtain ⟨fd_law_forest_bases, D_law_forest_bases⟩ := c.d.def_ 34 (d := HD.d_law_forest_bases) rfl
  obtain ⟨fd_law_drawn_lines, D_law_drawn_lines⟩ := c.d.def_ 35 (d := HD.d_law_drawn_lines) rfl
  obtain ⟨fd_law_column_bases, D_law_column_bases⟩ := c.d.def_ 36 (d := HD.d_law_column_bases) rfl
  obtain ⟨fd_law_drawn_bases, D_law_drawn_bases⟩ := c.d.def_ 37 (d := HD.d_law_drawn_bases) rfl
  obtain ⟨fd_law_drawn_ground, D_law_drawn_ground⟩ := c.d.def_ 38 (d := HD.d_law_drawn_ground) rfl
  obtain ⟨fd_law_set, D_law_set⟩ := c.d.def_ 39 (d := HD.d_law_set) rfl
  obtain ⟨fd_law_given, D_law_given⟩ := c.d.def_ 40 (d := HD.d_law_given) rfl
  obtain ⟨fd_law_link, D_law_link⟩ := c.d.def_ 41 (d := HD.d_law_link) rfl
  obtain ⟨fd_law_part_masks, D_law_part_masks⟩ := c.d.def_ 42 (d := HD.d_law_part_masks) rfl
  obtain ⟨fd_law_split_masks, D_law_split_masks⟩ := c.d.def_ 43 (d := HD.d_law_split_masks) rfl
  obtain ⟨fd_law_good_masks, D_law_good_masks⟩ := c.d.def_ 44 (d := HD.d_law_good_masks) rfl
  obtain ⟨fd_law_whole_bases, D_law_whole_bases⟩ := c.d.def_ 45 (d := HD.d_law_whole_bases) rfl
  obtain ⟨fd_law_sorted_sets, D_law_sorted_sets⟩ := c.d.def_ 46 (d := HD.d_law_sorted_sets) rfl
  obtain ⟨fd_law, D_law⟩ := c.d.def_ 47 (d := HD.d_law) rfl
  refine ⟨fd_law, D_law, fun base => ?_⟩
  have C_is_whole_in := c_is_whole_in (P := P) (w := w) (K := K) (mg := mg) (base := base) (k := 0) D_is_whole_in (glo_ok X G (c.d.fact 0 (f := .glo "is_whole_in") rfl)) (free_ok X G (c.d.fact 51 (f := .free "bool") rfl)) (free_ok X G (c.d.fact 53 (f := .free "int") rfl)) (free_ok X G (c.d.fact 54 (f := .free "isinstance") rfl))
  have C_is_set_of_elements := c_is_set_of_elements (P := P) (w := w) (K := K) (mg := mg) (base := base) (k := 1) D_is_set_of_elements (glo_ok X G (c.d.fact 1 (f := .glo "is_set_of_elements") rfl)) (free_ok X G (c.d.fact 49 (f := .free "all") rfl)) (free_ok X G (c.d.fact 54 (f := .free "isinstance") rfl)) (free_ok X G (c.d.fact 55 (f := .free "len") rfl)) (free_ok X G (c.d.fact 59 (f := .free "range") rfl)) (free_ok X G (c.d.fact 63 (f := .free "tuple") rfl)) (int_ok X G (c.d.fact 64 (f := .int "MAX_ELEMENT" 199) rfl)) (C_is_whole_in.mono (by decide))
  have C_is_ground := c_is_ground (P := P) (w := w) (K := K) (mg := mg) (base := base) (k := 2) D_is_ground (glo_ok X G (c.d.fact 2 (f := .glo "is_ground") rfl)) (free_ok X G (c.d.fact 55 (f := .free "len") rfl)) (int_ok X G (c.d.fact 65 (f := .int "MAX_GROUND" 10) rfl)) (C_is_set_of_elements.mono (by decide))
  have C_is_set_within := c_is_set_within (P := P) (w := w) (K := K) (mg := mg) (base := base) (k := 2) D_is_set_within (glo_ok X G (c.d.fact 3 (f := .glo "is_set_within") rfl)) (free_ok X G (c.d.fact 49 (f := .free "all") rfl)) (C_is_set_of_elements.mono (by decide))
  have C_are_sets_within := c_are_sets_within (P := P) (w := w) (K := K) (mg := mg) (base := base) (k := 3) D_are_sets_within (glo_ok X G (c.d.fact 4 (f := .glo "are_sets_within") rfl)) (free_ok X G (c.d.fact 49 (f := .free "all") rfl)) (free_ok X G (c.d.fact 54 (f := .free "isinstance") rfl)) (free_ok X G (c.d.fact 55 (f := .free "len") rfl)) (free_ok X G (c.d.fact 59 (f := .free "range") rfl)) (free_ok X G (c.d.fact 63 (f := .free "tuple") rfl)) (C_is_set_within.mono (by decide))
  have C_ones_of := c_ones_of (P := P) (w := w) (K := K) (mg := mg) (base := base) (k := 0) D_ones_of (glo_ok X G (c.d.fact 5 (f := .glo "ones_of") rfl))
  have C_mask_from := c_mask_from (P := P) (w := w) (K := K) (mg := mg) (base := base) (k := 0) D_mask_from (glo_ok X G (c.d.fact 6 (f := .glo "mask_from") rfl)) (free_ok X G (c.d.fact 52 (f := .free "enumerate") rfl)) (free_ok X G (c.d.fact 62 (f := .free "sum") rfl))
  have C_set_from := c_set_from (P := P) (w := w) (K := K) (mg := mg) (base := base) (k := 0) D_set_from (glo_ok X G (c.d.fact 7 (f := .glo "set_from") rfl)) (free_ok X G (c.d.fact 52 (f := .free "enumerate") rfl)) (free_ok X G (c.d.fact 63 (f := .free "tuple") rfl))
  have C_sets_from := c_sets_from (P := P) (w := w) (K := K) (mg := mg) (base := base) (k := 1) D_sets_from (glo_ok X G (c.d.fact 8 (f := .glo "sets_from") rfl)) (free_ok X G (c.d.fact 61 (f := .free "sorted") rfl)) (free_ok X G (c.d.fact 63 (f := .free "tuple") rfl)) (C_set_from.mono (by decide))
  have C_digits_in := c_digits_in (P := P) (w := w) (K := K) (mg := mg) (base := base) (k := 0) D_digits_in (glo_ok X G (c.d.fact 9 (f := .glo "digits_in") rfl)) (free_ok X G (c.d.fact 59 (f := .free "range") rfl))
  have C_ranks_by_masks := c_ranks_by_masks (P := P) (w := w) (K := K) (mg := mg) (base := base) (k := 1) D_ranks_by_masks (glo_ok X G (c.d.fact 10 (f := .glo "ranks_by_masks") rfl)) (free_ok X G (c.d.fact 57 (f := .free "max") rfl)) (free_ok X G (c.d.fact 59 (f := .free "range") rfl)) (C_digits_in.mono (by decide)) (C_ones_of.mono (by decide))
  have C_has_pair_fault := c_has_pair_fault (P := P) (w := w) (K := K) (mg := mg) (base := base) (k := 1) D_has_pair_fault (glo_ok X G (c.d.fact 11 (f := .glo "has_pair_fault") rfl)) (free_ok X G (c.d.fact 59 (f := .free "range") rfl)) (free_ok X G (c.d.fact 62 (f := .free "sum") rfl)) (C_digits_in.mono (by decide))
  have C_bases_by_ranks := c_bases_by_ranks (P := P) (w := w) (K := K) (mg := mg) (base := base) (k := 2) D_bases_by_ranks (glo_ok X G (c.d.fact 12 (f := .glo "bases_by_ranks") rfl)) (free_ok X G (c.d.fact 55 (f := .free "len") rfl)) (free_ok X G (c.d.fact 59 (f := .free "range") rfl)) (C_ones_of.mono (by decide)) (C_sets_from.mono (by decide))
  have C_need_ground := c_need_ground (P := P) (w := w) (K := K) (mg := mg) (base := base) (k := 3) D_need_ground (glo_ok X G (c.d.fact 15 (f := .glo "need_ground") rfl)) (C_is_ground.mono (by decide))
  have C_checked_ranks := c_checked_ranks (P := P) (w := w) (K := K) (mg := mg) (base := base) (k := 2) D_checked_ranks (glo_ok X G (c.d.fact 13 (f := .glo "checked_ranks") rfl)) (free_ok X G (c.d.fact 49 (f := .free "all") rfl)) (free_ok X G (c.d.fact 55 (f := .free "len") rfl)) (C_mask_from.mono (by decide)) (C_ranks_by_masks.mono (by decide)) (C_has_pair_fault.mono (by decide))
  have C_need_matroid := c_need_matroid (P := P) (w := w) (K := K) (mg := mg) (base := base) (k := 0) D_need_matroid (glo_ok X G (c.d.fact 16 (f := .glo "need_matroid") rfl)) (free_ok X G (c.d.fact 54 (f := .free "isinstance") rfl)) cl mgM c.m
  have C_init := c_init (P := P) (w := w) (K := K) (mg := mg) (base := base) (k := 4) D_init (free_ok X G (c.d.fact 55 (f := .free "len") rfl)) cl (noat_ok (c.d.fact 70 (f := .noat "Matroid" "ground") rfl)) (noat_ok (c.d.fact 69 (f := .noat "Matroid" "bases") rfl)) (noat_ok (c.d.fact 72 (f := .noat "Matroid" "own_ranks") rfl)) (noat_ok (c.d.fact 71 (f := .noat "Matroid" "own_full") rfl)) (C_need_ground.mono (by decide)) (C_are_sets_within.mono (by decide)) (C_checked_ranks.mono (by decide))
  have fi : ∀ {k : Nat}, 6 ≤ k → FInitM P w K mg base (ga K "Matroid") k := fun hk => ⟨_, _, _, hk, ⟨C_init, mkr_ok (c.d.fact 67 (f := .mkr "Matroid") rfl), mgM⟩, (b_init D_init).1, (b_init D_init).2⟩
  have C_matroid_by_ranks := c_matroid_by_ranks (P := P) (w := w) (K := K) (mg := mg) (base := base) (k := 6) D_matroid_by_ranks (glo_ok X G (c.d.fact 14 (f := .glo "matroid_by_ranks") rfl)) (fi (by decide)) (C_bases_by_ranks.mono (by decide))
  have C_dual := c_dual (P := P) (w := w) (K := K) (mg := mg) (base := base) (k := 7) D_dual (meth_ok (c.d.fact 68 (f := .meth "Matroid" "dual") rfl)) (free_ok X G (c.d.fact 59 (f := .free "range") rfl)) cl (noat_ok (c.d.fact 70 (f := .noat "Matroid" "ground") rfl)) (noat_ok (c.d.fact 71 (f := .noat "Matroid" "own_full") rfl)) (noat_ok (c.d.fact 72 (f := .noat "Matroid" "own_ranks") rfl)) (C_ones_of.mono (by decide)) (C_matroid_by_ranks.mono (by decide))
  have C_pc_link := c_pc_link (P := P) (w := w) (K := K) (mg := mg) (base := base) (k := 0) D_pc_link (glo_ok X G (c.d.fact 17 (f := .glo "pc_link") rfl)) cl (noat_ok (c.d.fact 71 (f := .noat "Matroid" "own_full") rfl)) (noat_ok (c.d.fact 72 (f := .noat "Matroid" "own_ranks") rfl))
  have C_pc_lowest := c_pc_lowest (P := P) (w := w) (K := K) (mg := mg) (base := base) (k := 0) D_pc_lowest (glo_ok X G (c.d.fact 18 (f := .glo "pc_lowest") rfl))
  have C_pc_part_masks := c_pc_part_masks (P := P) (w := w) (K := K) (mg := mg) (base := base) (k := 1) D_pc_part_masks (glo_ok X G (c.d.fact 19 (f := .glo "pc_part_masks") rfl)) (free_ok X G (c.d.fact 58 (f := .free "min") rfl)) (free_ok X G (c.d.fact 59 (f := .free "range") rfl)) cl (noat_ok (c.d.fact 71 (f := .noat "Matroid" "own_full") rfl)) (C_pc_lowest.mono (by decide)) (C_pc_link.mono (by decide)) (C_ones_of.mono (by decide))
  have C_pc_need_whole := c_pc_need_whole (P := P) (w := w) (K := K) (mg := mg) (base := base) (k := 2) D_pc_need_whole (glo_ok X G (c.d.fact 20 (f := .glo "pc_need_whole") rfl)) (free_ok X G (c.d.fact 55 (f := .free "len") rfl)) (C_pc_part_masks.mono (by decide))
  have C_pc_split_masks := c_pc_split_masks (P := P) (w := w) (K := K) (mg := mg) (base := base) (k := 1) D_pc_split_masks (glo_ok X G (c.d.fact 21 (f := .glo "pc_split_masks") rfl)) (free_ok X G (c.d.fact 55 (f := .free "len") rfl)) (free_ok X G (c.d.fact 59 (f := .free "range") rfl)) cl (noat_ok (c.d.fact 70 (f := .noat "Matroid" "ground") rfl)) (noat_ok (c.d.fact 71 (f := .noat "Matroid" "own_full") rfl)) (C_ones_of.mono (by decide)) (C_pc_link.mono (by decide))
  have C_pc_cross := c_pc_cross (P := P) (w := w) (K := K) (mg := mg) (base := base) (k := 0) D_pc_cross (glo_ok X G (c.d.fact 22 (f := .glo "pc_cross") rfl))
  have C_pc_good_masks := c_pc_good_masks (P := P) (w := w) (K := K) (mg := mg) (base := base) (k := 2) D_pc_good_masks (glo_ok X G (c.d.fact 23 (f := .glo "pc_good_masks") rfl)) (free_ok X G (c.d.fact 50 (f := .free "any") rfl)) cl (noat_ok (c.d.fact 71 (f := .noat "Matroid" "own_full") rfl)) (C_pc_split_masks.mono (by decide)) (C_pc_cross.mono (by decide))
  have C_splits_of := c_splits_of (P := P) (w := w) (K := K) (mg := mg) (base := base) (k := 3) D_splits_of (glo_ok X G (c.d.fact 24 (f := .glo "splits_of") rfl)) cl (noat_ok (c.d.fact 70 (f := .noat "Matroid" "ground") rfl)) (C_need_matroid.mono (by decide)) (C_pc_need_whole.mono (by decide)) (C_pc_split_masks.mono (by decide)) (C_sets_from.mono (by decide))
  have K_splits_of := k_splits_of (P := P) (w := w) (K := K) (mg := mg) (base := base) (k := 3) D_splits_of (glo_ok X G (c.d.fact 24 (f := .glo "splits_of") rfl)) cl (noat_ok (c.d.fact 70 (f := .noat "Matroid" "ground") rfl)) (C_need_matroid.mono (by decide)) (C_pc_need_whole.mono (by decide)) (C_pc_split_masks.mono (by decide)) (C_sets_from.mono (by decide))
  have C_good_splits_of := c_good_splits_of (P := P) (w := w) (K := K) (mg := mg) (base := base) (k := 3) D_good_splits_of (glo_ok X G (c.d.fact 25 (f := .glo "good_splits_of") rfl)) cl (noat_ok (c.d.fact 70 (f := .noat "Matroid" "ground") rfl)) (C_need_matroid.mono (by decide)) (C_pc_need_whole.mono (by decide)) (C_pc_good_masks.mono (by decide)) (C_sets_from.mono (by decide))
  have K_good_splits_of := k_good_splits_of (P := P) (w := w) (K := K) (mg := mg) (base := base) (k := 3) D_good_splits_of (glo_ok X G (c.d.fact 25 (f := .glo "good_splits_of") rfl)) cl (noat_ok (c.d.fact 70 (f := .noat "Matroid" "ground") rfl)) (C_need_matroid.mono (by decide)) (C_pc_need_whole.mono (by decide)) (C_pc_good_masks.mono (by decide)) (C_sets_from.mono (by decide))
  have C_law_source := c_law_source (P := P) (w := w) (K := K) (mg := mg) (base := base) (k := 0) D_law_source (glo_ok X G (c.d.fact 26 (f := .glo "_law_source") rfl)) (free_ok X G (c.d.fact 55 (f := .free "len") rfl))
  have C_law_next := c_law_next (P := P) (w := w) (K := K) (mg := mg) (base := base) (k := 0) D_law_next (glo_ok X G (c.d.fact 27 (f := .glo "_law_next") rfl)) (free_ok X G (c.d.fact 53 (f := .free "int") rfl))
  have C_law_pick := c_law_pick (P := P) (w := w) (K := K) (mg := mg) (base := base) (k := 1) D_law_pick (glo_ok X G (c.d.fact 28 (f := .glo "_law_pick") rfl)) (free_ok X G (c.d.fact 55 (f := .free "len") rfl)) (C_law_next.mono (by decide))
  have C_law_turned := c_law_turned (P := P) (w := w) (K := K) (mg := mg) (base := base) (k := 1) D_law_turned (glo_ok X G (c.d.fact 29 (f := .glo "_law_turned") rfl)) (free_ok X G (c.d.fact 55 (f := .free "len") rfl)) (free_ok X G (c.d.fact 56 (f := .free "list") rfl)) (C_law_next.mono (by decide))
  have C_law_count := c_law_count (P := P) (w := w) (K := K) (mg := mg) (base := base) (k := 0) D_law_count (glo_ok X G (c.d.fact 30 (f := .glo "_law_count") rfl))
  have C_law_ranks := c_law_ranks (P := P) (w := w) (K := K) (mg := mg) (base := base) (k := 1) D_law_ranks (glo_ok X G (c.d.fact 31 (f := .glo "_law_ranks") rfl)) (free_ok X G (c.d.fact 57 (f := .free "max") rfl)) (free_ok X G (c.d.fact 59 (f := .free "range") rfl)) (C_law_count.mono (by decide))
  have C_law_sized := c_law_sized (P := P) (w := w) (K := K) (mg := mg) (base := base) (k := 1) D_law_sized (glo_ok X G (c.d.fact 32 (f := .glo "_law_sized") rfl)) (free_ok X G (c.d.fact 59 (f := .free "range") rfl)) (C_law_count.mono (by decide))
  have C_law_sparse := c_law_sparse (P := P) (w := w) (K := K) (mg := mg) (base := base) (k := 2) D_law_sparse (glo_ok X G (c.d.fact 33 (f := .glo "_law_sparse") rfl)) (C_law_next.mono (by decide)) (C_law_sized.mono (by decide)) (C_law_turned.mono (by decide)) (C_law_count.mono (by decide))
  have C_law_forest_bases := c_law_forest_bases (P := P) (w := w) (K := K) (mg := mg) (base := base) (k := 1) D_law_forest_bases (glo_ok X G (c.d.fact 34 (f := .glo "_law_forest_bases") rfl)) (free_ok X G (c.d.fact 56 (f := .free "list") rfl)) (free_ok X G (c.d.fact 57 (f := .free "max") rfl)) (free_ok X G (c.d.fact 59 (f := .free "range") rfl)) (C_law_count.mono (by decide))
  have C_law_drawn_lines := c_law_drawn_lines (P := P) (w := w) (K := K) (mg := mg) (base := base) (k := 2) D_law_drawn_lines (glo_ok X G (c.d.fact 35 (f := .glo "_law_drawn_lines") rfl)) (free_ok X G (c.d.fact 53 (f := .free "int") rfl)) (free_ok X G (c.d.fact 55 (f := .free "len") rfl)) (free_ok X G (c.d.fact 58 (f := .free "min") rfl)) (free_ok X G (c.d.fact 59 (f := .free "range") rfl)) (C_law_next.mono (by decide)) (C_law_pick.mono (by decide))
  have C_law_column_bases := c_law_column_bases (P := P) (w := w) (K := K) (mg := mg) (base := base) (k := 1) D_law_column_bases (glo_ok X G (c.d.fact 36 (f := .glo "_law_column_bases") rfl)) (free_ok X G (c.d.fact 57 (f := .free "max") rfl)) (free_ok X G (c.d.fact 59 (f := .free "range") rfl)) (C_law_count.mono (by decide))
  have C_law_drawn_bases := c_law_drawn_bases (P := P) (w := w) (K := K) (mg := mg) (base := base) (k := 3) D_law_drawn_bases (glo_ok X G (c.d.fact 37 (f := .glo "_law_drawn_bases") rfl)) (free_ok X G (c.d.fact 59 (f := .free "range") rfl)) (C_law_next.mono (by decide)) (C_law_sparse.mono (by decide)) (C_law_column_bases.mono (by decide)) (C_law_drawn_lines.mono (by decide)) (C_law_forest_bases.mono (by decide))
  have C_law_drawn_ground := c_law_drawn_ground (P := P) (w := w) (K := K) (mg := mg) (base := base) (k := 1) D_law_drawn_ground (glo_ok X G (c.d.fact 38 (f := .glo "_law_drawn_ground") rfl)) (free_ok X G (c.d.fact 59 (f := .free "range") rfl)) (free_ok X G (c.d.fact 63 (f := .free "tuple") rfl)) (C_law_next.mono (by decide))
  have C_law_set := c_law_set (P := P) (w := w) (K := K) (mg := mg) (base := base) (k := 0) D_law_set (glo_ok X G (c.d.fact 39 (f := .glo "_law_set") rfl)) (free_ok X G (c.d.fact 52 (f := .free "enumerate") rfl)) (free_ok X G (c.d.fact 63 (f := .free "tuple") rfl))
  have C_law_given := c_law_given (P := P) (w := w) (K := K) (mg := mg) (base := base) (k := 6) D_law_given (glo_ok X G (c.d.fact 40 (f := .glo "_law_given") rfl)) (free_ok X G (c.d.fact 61 (f := .free "sorted") rfl)) (free_ok X G (c.d.fact 63 (f := .free "tuple") rfl)) (fi (by decide)) (C_law_set.mono (by decide))
  have C_law_link := c_law_link (P := P) (w := w) (K := K) (mg := mg) (base := base) (k := 0) D_law_link (glo_ok X G (c.d.fact 41 (f := .glo "_law_link") rfl)) (free_ok X G (c.d.fact 55 (f := .free "len") rfl))
  have C_law_part_masks := c_law_part_masks (P := P) (w := w) (K := K) (mg := mg) (base := base) (k := 1) D_law_part_masks (glo_ok X G (c.d.fact 42 (f := .glo "_law_part_masks") rfl)) (free_ok X G (c.d.fact 55 (f := .free "len") rfl)) (free_ok X G (c.d.fact 59 (f := .free "range") rfl)) (C_law_link.mono (by decide))
  have C_law_split_masks := c_law_split_masks (P := P) (w := w) (K := K) (mg := mg) (base := base) (k := 1) D_law_split_masks (glo_ok X G (c.d.fact 43 (f := .glo "_law_split_masks") rfl)) (free_ok X G (c.d.fact 55 (f := .free "len") rfl)) (free_ok X G (c.d.fact 59 (f := .free "range") rfl)) (C_law_count.mono (by decide)) (C_law_link.mono (by decide))
  have C_law_good_masks := c_law_good_masks (P := P) (w := w) (K := K) (mg := mg) (base := base) (k := 2) D_law_good_masks (glo_ok X G (c.d.fact 44 (f := .glo "_law_good_masks") rfl)) (free_ok X G (c.d.fact 53 (f := .free "int") rfl)) (free_ok X G (c.d.fact 55 (f := .free "len") rfl)) (C_law_split_masks.mono (by decide))
  have C_law_whole_bases := c_law_whole_bases (P := P) (w := w) (K := K) (mg := mg) (base := base) (k := 4) D_law_whole_bases (glo_ok X G (c.d.fact 45 (f := .glo "_law_whole_bases") rfl)) (free_ok X G (c.d.fact 55 (f := .free "len") rfl)) (free_ok X G (c.d.fact 59 (f := .free "range") rfl)) (C_law_drawn_bases.mono (by decide)) (C_law_ranks.mono (by decide)) (C_law_part_masks.mono (by decide)) (C_law_sized.mono (by decide))
  have C_law_sorted_sets := c_law_sorted_sets (P := P) (w := w) (K := K) (mg := mg) (base := base) (k := 1) D_law_sorted_sets (glo_ok X G (c.d.fact 46 (f := .glo "_law_sorted_sets") rfl)) (free_ok X G (c.d.fact 61 (f := .free "sorted") rfl)) (free_ok X G (c.d.fact 63 (f := .free "tuple") rfl)) (C_law_set.mono (by decide))
  exact c_law (k := 8) D_law rm (free_ok X G (c.d.fact 55 (f := .free "len") rfl)) (free_ok X G (c.d.fact 57 (f := .free "max") rfl)) (free_ok X G (c.d.fact 58 (f := .free "min") rfl)) (free_ok X G (c.d.fact 59 (f := .free "range") rfl)) (free_ok X G (c.d.fact 60 (f := .free "repr") rfl)) cl (C_dual.mono (by decide)) (C_law_source.mono (by decide)) (C_law_next.mono (by decide)) (C_law_drawn_ground.mono (by decide)) (C_law_whole_bases.mono (by decide)) (C_law_given.mono (by decide)) (C_law_ranks.mono (by decide)) (C_good_splits_of.mono (by decide)) (C_law_good_masks.mono (by decide)) (C_law_sorted_sets.mono (by decide)) (C_law_sized.mono (by decide)) (C_law_forest_bases.mono (by decide)) (C_splits_of.mono (by decide)) (K_good_splits_of.mono (by decide)) (K_splits_of.mono (by decide))
end K66

set_option maxHeartbeats 0
open PySem PySem.W PySem.Calls PyProof.Rows
theorem PySem.Challenge.cw_rankwright_k66_whole_good_splits_holds : PySem.Challenge.rw_rankwright_k66_whole_good_splits.Holds := by
  w_on; o_law
  refine HandSHeadRun.head_any (r := HD.R) (q := view HD.R.prog [80]) (H := HD.hk) (ob := HD.ob) (M := 20000) (loose := HD.loose) (d := HandSHeadRun.topDef HD.R.prog 80) (kwd := []) HD.ob_eq
    (by kernel_rfl) (fun s => by kernel_rfl) HD.run (by kernel_rfl) (by kernel_rfl) (by kernel_rfl) (by rfl) (by first | assumption | decide +kernel) (by decide +kernel) ⟨rfl, rfl, rfl, rfl, rfl, by decide +kernel⟩ ?hw ?hc
  case hw => w_witness2
  case hc =>
    refine DL.walk_at (l := PySem.Challenge.rw_rankwright_k66_whole_good_splits) (n := 63) (x := "script") rfl (by decide) (by kernel_rfl) ?F
    intro w mg fa h Y G hmg0
    obtain ⟨K, KX, c⟩ := Y
    have hmg : mg ("law" : PySem.Str) = some (.ref fa) := by
      have e : (HandSHeadRun.topDef HD.R.prog 80).name = ("law" : PySem.Str) := by kernel_rfl
      rw [← e]
      exact hmg0
    obtain ⟨fd, D, hF⟩ := K66.join (P := PySem.Challenge.rw_rankwright_k66_whole_good_splits.prog) (w := w) KX G c ⟨rfl, by decide, by decide⟩
    have e := hmg.symm.trans (He.glo_ok KX G (c.d.fact 47 (f := .glo "law") rfl))
    cases e
    have b := L2.FunD.bindsA (ps := ["script"]) D fun _ _ _ _ _ _ us hl => match us, hl with | [_], _ => rfl
    exact ⟨K, fd, _, KX, fun s v => b s [v] rfl, DL.law_spec (by decide) fun ns hl => DL.FP.mk (ds := [K66.eSq DL.D.int ns]) ⟨ns, (K66.law_ok hl).1, rfl, by rw [(K66.law_ok hl).2]⟩, fun base _ _ => hF base⟩
